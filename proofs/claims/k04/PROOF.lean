import PyProof.Rows.All
import Wide.All
import OpenK.AllK
import Wide.FinOn
import HandS.ForMost
import HandS.Flow
import HandS.Deep
import HandS.Lambda
import KE.KStateDown
import HandS.Head0
import HandS.Head1
import HandS.Head2
import HandS.HeadEnd
import HandS.HeadHook1
import HandS.HeadHook2
import HandS.HeadNt
import HandS.ExcField
import HandS.HeadWalk
import HandS.EndTab
import HandS.IsInst
import PySem.Challenge.RW_spanrows_k04_rows_of_layouts
import HandS.TupAny
import HandS.Star
import HandS.Codes
import HandS.Defaults
import HandS.ForExc
import HandS.Style
import KE.GoesMore
import KE.GoesEnum
import PyProof.EnumMake
import HandS.ClsMeth
import HandS.Property
import HandS.Flt
import HandS.ExcOwn
import HandS.ExcInit
import HandS.HotCalls
import HandS.TupLe
import HandS.More
import KE.KDflt
import HandS.Nested
set_option Elab.async false
set_option linter.all false
set_option maxRecDepth 100000
set_option maxHeartbeats 4000000
/-! DL1: data level over the hand layer: data D, what represents it, the situation of a frame. -/
namespace DL
open PySem PySem.Spec PyProof.Rows L2

/-! ### data -/
inductive D where
  | non | bl (b : Bool) | int (i : Int) | str (x : Str) | tup (ds : List D) | lst (ds : List D) | obj (c : Nat) (ds : List D) | bag | cls (c : Nat) | lat (a : Addr) (ds : List D) | scr (ns : List Int) | exn (u dx : Addr) (ns : List Str) (ds : List D)
mutual
@[simp] def D.imm : D → Bool
  | .lst _ => false
  | .obj _ _ => false
  | .tup ds => immAll ds
  | .non => true
  | .bl _ => true
  | .int _ => true
  | .str _ => true
  | .bag => true
  | .cls _ => true
  | .lat _ _ => false
  | .scr _ => false
  | .exn _ _ _ _ => false
@[simp] def immAll : List D → Bool
  | [] => true
  | d :: ds => d.imm && immAll ds
end
/-- a list that stands in the written part -/
def KLst (K : PySem.W.Frag) (a : Addr) (xs : List V) : Prop := ∃ (o : Obj) (its : Array Value) (n : Nat), K.lookup a = some o ∧ o.cls = .type "list" ∧ o.dict = none ∧ o.data = .seq its n ∧ its.size ≤ sizeLine ∧ Vals xs its.toList
/-- classes of the program's own whose instances are data: the class's address, its fields -/
abbrev Tab := Nat → Addr × List Str
section
variable (K : PySem.W.Frag) (T : Tab) (B : Option Addr) (M : Addr → Prop) (H : Hp)
mutual
def Rep : D → V → Prop
  | .non, v => v = .non
  | .bl b, v => v = .bl b
  | .int i, v => v = .int i
  | .str x, v => v = .str x
  | .bag, v => ∃ b, B = some b ∧ v = .ref b
  | .cls c, v => v = .ref (T c).1
  | .lat a ds, v => ∃ vs, v = .ref a ∧ H a = some (.lst vs) ∧ ¬ M a ∧ Reps ds vs
  | .scr ns, v => ∃ a, v = .ref a ∧ ((Rd H a (.lst (ns.map V.int)) ∧ ¬ M a) ∨ KLst K a (ns.map V.int))
  | .exn u dx ns ds, v => ∃ vs, v = .ref u ∧ H dx = some (.xd (ns.zip vs)) ∧ ¬ M dx ∧ Reps ds vs
  | .tup ds, v => ∃ a vs, v = .ref a ∧ SqT K H a vs ∧ Reps ds vs
  | .lst ds, v => ∃ a vs, v = .ref a ∧ H a = some (.lst vs) ∧ ¬ M a ∧ Reps ds vs
  | .obj c ds, v => ∃ a dx vs, v = .ref a ∧ H a = some (.ins (T c).1 dx ((T c).2.zip vs)) ∧ ¬ M a ∧ Reps ds vs
def Reps : List D → List V → Prop
  | [], vs => vs = []
  | d :: ds, vs => ∃ v r, vs = v :: r ∧ Rep d v ∧ Reps ds r
end
end
/-- no table of code objects -/
def noT (o : HO) : Prop := ∀ ps, o ≠ .tbl ps
/-- something stands there, no table -/
structure Lv (H : Hp) (a : Addr) : Prop where
  ex : ∃ o, H a = some o ∧ noT o
theorem Lv.no {H : Hp} {a : Addr} (h : Lv H a) (n : H a = none) : False := by
  obtain ⟨o, e, _⟩ := h.ex
  rw [n] at e
  cases e
/-- nothing stands there, or a table -/
abbrev Nv (H : Hp) (a : Addr) : Prop := ¬ Lv H a
theorem nl {H : Hp} {a : Addr} (h : H a = none) : Nv H a := fun z => z.no h
instance {H : Hp} {a : Addr} : CoeFun (Lv H a) (fun _ => H a = none → False) := ⟨fun h n => h.no n⟩
theorem Lv.of {H : Hp} {a : Addr} {o : HO} (h : H a = some o) (t : noT o := by intro ps z; cases z) : Lv H a := ⟨o, h, t⟩
theorem tabS_upd {H : Hp} {p : Addr} {o : HO} {P : Addr} {q : Str} (h : LamX.TabS H P q) (hp : ∀ u, H p = some u → (∀ ps, u ≠ .tbl ps) ∧ ∀ f, u ≠ .ext f) : LamX.TabS (upd H p o) P q := by
  obtain ⟨ps, h1, h2, h3⟩ := h
  have n1 : P ≠ p := fun z => (hp _ (z ▸ h1)).1 ps rfl
  refine ⟨ps, by rw [upd_ne n1]; exact h1, h2, fun pos cv e => ?_⟩
  obtain ⟨c, e1, e2⟩ := h3 pos cv e
  have n2 : c ≠ p := fun z => (hp _ (z ▸ e2)).2 _ rfl
  exact ⟨c, e1, by rw [upd_ne n2]; exact e2⟩
/-- what may change lies in N; tables of code objects may grow -/
structure Kp (N : Addr → Prop) (H H' : Hp) : Prop where
  k0 : ∀ a o, H a = some o → ¬ N a → noT o → H' a = some o
  t : ∀ a xs, H a = some (.tup xs) → H' a = some (.tup xs)
  z : ∀ a o u, H a = some (.frz o u) → H' a = some (.frz o u)
  s : ∀ a, Lv H a → Lv H' a
/-- tables of code objects stay what they are -/
def Tk (H H' : Hp) : Prop := ∀ P q, LamX.TabS H P q → LamX.TabS H' P q
theorem Tk.refl {H : Hp} : Tk H H := fun _ _ h => h
theorem Tk.laid {H : Hp} {p : Addr} {o : HO} (hp : H p = none) : Tk H (upd H p o) := fun _ _ h => tabS_upd h fun u e => by rw [hp] at e; cases e
theorem Tk.write {H : Hp} {p : Addr} {o u : HO} (hp : H p = some u) (h1 : noT u) (h2 : ∀ f, u ≠ .ext f) : Tk H (upd H p o) := fun _ _ h => tabS_upd h fun u e => by rw [hp] at e; cases e; exact ⟨h1, h2⟩
theorem Kp.k {N : Addr → Prop} {H H' : Hp} (x : Kp N H H') (a : Addr) (o : HO) (h : H a = some o) (n : ¬ N a) (t : noT o := by intro ps z; cases z) : H' a = some o := x.k0 a o h n t
theorem Kp.refl {N : Addr → Prop} {H : Hp} : Kp N H H := ⟨fun _ _ h _ _ => h, fun _ _ h => h, fun _ _ _ h => h, fun _ h => h⟩
theorem Kp.trans {N : Addr → Prop} {H H1 H2 : Hp} (a : Kp N H H1) (b : Kp N H1 H2) : Kp N H H2 :=
  ⟨fun c o h n t => b.k0 c o (a.k0 c o h n t) n t, fun c xs h => b.t c xs (a.t c xs h), fun c o u h => b.z c o u (a.z c o u h), fun c h => b.s c (a.s c h)⟩
theorem Kp.mono {N N' : Addr → Prop} {H H' : Hp} (a : Kp N H H') (h : ∀ c, N c → N' c) : Kp N' H H' := ⟨fun c o e n => a.k0 c o e fun z => n (h c z), a.t, a.z, a.s⟩
theorem Kp.laid {N : Addr → Prop} {H : Hp} {p : Addr} {o : HO} (hp : H p = none) : Kp N H (upd H p o) := by
  have ne : ∀ a u, H a = some u → a ≠ p := fun a u e z => by rw [z, hp] at e; cases e
  refine ⟨fun a u e _ _ => by rw [upd_ne (ne a u e)]; exact e, fun a xs e => by rw [upd_ne (ne a _ e)]; exact e, fun a x u e => by rw [upd_ne (ne a _ e)]; exact e, fun a h => ?_⟩
  obtain ⟨u, e, t⟩ := h.ex
  exact Lv.of (by rw [upd_ne (ne a u e)]; exact e) t
theorem Kp.write {N : Addr → Prop} {H : Hp} {p : Addr} {o : HO} {xs : List V} (hN : N p) (hp : H p = some (.lst xs)) (ho : noT o := by intro ps z; cases z) : Kp N H (upd H p o) := by
  refine ⟨fun a u e n _ => ?_, fun a ys e => ?_, fun a x u e => ?_, fun a h => ?_⟩
  · rw [upd_ne fun z => n (by rw [z]; exact hN)]; exact e
  · rw [upd_ne fun z => by rw [z, hp] at e; cases e]; exact e
  · rw [upd_ne fun z => by rw [z, hp] at e; cases e]; exact e
  · by_cases q : a = p
    · rw [q]; exact Lv.of upd_same ho
    · obtain ⟨u, e, t⟩ := h.ex
      exact Lv.of (by rw [upd_ne q]; exact e) t
theorem sqT_kp {K : PySem.W.Frag} {N : Addr → Prop} {H H' : Hp} {a : Addr} {xs : List V} (k : Kp N H H') (h : SqT K H a xs) : SqT K H' a xs := by
  rcases h with (h | ⟨o, h⟩) | h
  · exact .inl (.inl (k.t a xs h))
  · exact .inl (.inr ⟨o, k.z a o _ h⟩)
  · exact .inr h
theorem rd_kp {N : Addr → Prop} {H H' : Hp} {a : Addr} {u : HO} (k : Kp N H H') (n : ¬ N a) (h : Rd H a u) (t : noT u := by intro ps z; cases z) : Rd H' a u := by
  rcases h with h | ⟨o, h⟩
  · exact .inl (k.k0 a _ h n t)
  · exact .inr ⟨o, k.z a o _ h⟩
theorem sqL_kp {K : PySem.W.Frag} {N : Addr → Prop} {H H' : Hp} {a : Addr} {xs : List V} (k : Kp N H H') (n : ¬ N a) (h : SqL K H a xs) : SqL K H' a xs := by
  rcases h with (h | ⟨o, h⟩) | h
  · exact .inl (.inl (k.k a _ h n))
  · exact .inl (.inr ⟨o, k.z a o _ h⟩)
  · exact .inr h
section
variable {K : PySem.W.Frag} {T : Tab} {B : Option Addr} {M M' N : Addr → Prop} {H H' : Hp}
mutual
theorem Rep.kp (k : Kp N H H') (n : ∀ a, N a → M a) : ∀ (d : D) (v : V), Rep K T B M H d v → Rep K T B M H' d v
  | .non, _, h => h
  | .bl _, _, h => h
  | .int _, _, h => h
  | .str _, _, h => h
  | .bag, _, h => h
  | .cls _, _, h => h
  | .lat a ds, _, ⟨vs, e, s, m, r⟩ => ⟨vs, e, k.k a _ s (fun z => m (n a z)), m, Reps.kp k n ds vs r⟩
  | .exn u dx ns ds, _, ⟨vs, e, s, m, r⟩ => ⟨vs, e, k.k dx _ s (fun z => m (n dx z)), m, Reps.kp k n ds vs r⟩
  | .scr _, _, ⟨a, e, s⟩ => ⟨a, e, s.imp (fun ⟨s, m⟩ => ⟨rd_kp k (fun z => m (n a z)) s, m⟩) id⟩
  | .tup ds, _, ⟨a, vs, e, s, r⟩ => ⟨a, vs, e, sqT_kp k s, Reps.kp k n ds vs r⟩
  | .lst ds, _, ⟨a, vs, e, s, m, r⟩ => ⟨a, vs, e, k.k a _ s (fun z => m (n a z)), m, Reps.kp k n ds vs r⟩
  | .obj c ds, _, ⟨a, dx, vs, e, s, m, r⟩ => ⟨a, dx, vs, e, k.k a _ s (fun z => m (n a z)), m, Reps.kp k n ds vs r⟩
theorem Reps.kp (k : Kp N H H') (n : ∀ a, N a → M a) : ∀ (ds : List D) (vs : List V), Reps K T B M H ds vs → Reps K T B M H' ds vs
  | [], _, h => h
  | d :: ds, _, ⟨v, r, e, h1, h2⟩ => ⟨v, r, e, Rep.kp k n d v h1, Reps.kp k n ds r h2⟩
end
mutual
theorem Rep.anti (n : ∀ a, M' a → M a) : ∀ (d : D) (v : V), Rep K T B M H d v → Rep K T B M' H d v
  | .non, _, h => h
  | .bl _, _, h => h
  | .int _, _, h => h
  | .str _, _, h => h
  | .bag, _, h => h
  | .cls _, _, h => h
  | .lat a ds, _, ⟨vs, e, s, m, r⟩ => ⟨vs, e, s, (fun z => m (n a z)), Reps.anti n ds vs r⟩
  | .exn u dx ns ds, _, ⟨vs, e, s, m, r⟩ => ⟨vs, e, s, (fun z => m (n dx z)), Reps.anti n ds vs r⟩
  | .scr _, _, ⟨a, e, s⟩ => ⟨a, e, s.imp (fun ⟨s, m⟩ => ⟨s, fun z => m (n a z)⟩) id⟩
  | .tup ds, _, ⟨a, vs, e, s, r⟩ => ⟨a, vs, e, s, Reps.anti n ds vs r⟩
  | .lst ds, _, ⟨a, vs, e, s, m, r⟩ => ⟨a, vs, e, s, (fun z => m (n a z)), Reps.anti n ds vs r⟩
  | .obj c ds, _, ⟨a, dx, vs, e, s, m, r⟩ => ⟨a, dx, vs, e, s, (fun z => m (n a z)), Reps.anti n ds vs r⟩
theorem Reps.anti (n : ∀ a, M' a → M a) : ∀ (ds : List D) (vs : List V), Reps K T B M H ds vs → Reps K T B M' H ds vs
  | [], _, h => h
  | d :: ds, _, ⟨v, r, e, h1, h2⟩ => ⟨v, r, e, Rep.anti n d v h1, Reps.anti n ds r h2⟩
end
mutual
theorem Rep.new {p : Addr} (hp : Nv H p) : ∀ (d : D) (v : V), Rep K T B M H d v → Rep K T B (fun a => M a ∨ a = p) H d v
  | .non, _, h => h
  | .bl _, _, h => h
  | .int _, _, h => h
  | .str _, _, h => h
  | .bag, _, h => h
  | .cls _, _, h => h
  | .lat a ds, _, ⟨vs, e, s, m, r⟩ => ⟨vs, e, s, (fun z => z.elim m fun z => by
      subst z
      exact hp (Lv.of s)), Reps.new hp ds vs r⟩
  | .exn u dx ns ds, _, ⟨vs, e, s, m, r⟩ => ⟨vs, e, s, (fun z => z.elim m fun z => by
      subst z
      exact hp (Lv.of s)), Reps.new hp ds vs r⟩
  | .scr _, _, ⟨a, e, s⟩ => ⟨a, e, s.imp (fun ⟨s, m⟩ => ⟨s, fun z => Or.elim z m fun z => by
      subst z
      rcases s with s | ⟨o, s⟩ <;> exact hp (Lv.of s)⟩) id⟩
  | .tup ds, _, ⟨a, vs, e, s, r⟩ => ⟨a, vs, e, s, Reps.new hp ds vs r⟩
  | .lst ds, _, ⟨a, vs, e, s, m, r⟩ => ⟨a, vs, e, s, (fun z => z.elim m fun z => by
      subst z
      exact hp (Lv.of s)), Reps.new hp ds vs r⟩
  | .obj c ds, _, ⟨a, dx, vs, e, s, m, r⟩ => ⟨a, dx, vs, e, s, (fun z => z.elim m fun z => by
      subst z
      exact hp (Lv.of s)), Reps.new hp ds vs r⟩
theorem Reps.new {p : Addr} (hp : Nv H p) : ∀ (ds : List D) (vs : List V), Reps K T B M H ds vs → Reps K T B (fun a => M a ∨ a = p) H ds vs
  | [], _, h => h
  | d :: ds, _, ⟨v, r, e, h1, h2⟩ => ⟨v, r, e, Rep.new hp d v h1, Reps.new hp ds r h2⟩
end
mutual
theorem Rep.imm : ∀ (d : D) (v : V), d.imm = true → Rep K T B M H d v → Rep K T B M' H d v
  | .non, _, _, h => h
  | .bl _, _, _, h => h
  | .int _, _, _, h => h
  | .str _, _, _, h => h
  | .bag, _, _, h => h
  | .cls _, _, _, h => h
  | .lat _ ds, _, i, _ => by cases i
  | .scr _, _, i, _ => by cases i
  | .exn _ _ _ _, _, i, _ => by cases i
  | .tup ds, _, i, ⟨a, vs, e, s, r⟩ => ⟨a, vs, e, s, Reps.imm ds vs i r⟩
  | .lst ds, _, i, _ => by cases i
  | .obj c ds, _, i, _ => by cases i
theorem Reps.imm : ∀ (ds : List D) (vs : List V), immAll ds = true → Reps K T B M H ds vs → Reps K T B M' H ds vs
  | [], _, _, h => h
  | d :: ds, _, i, ⟨v, r, e, h1, h2⟩ => by
    have i2 : (d.imm && immAll ds) = true := i
    obtain ⟨i3, i4⟩ := Bool.and_eq_true_iff.mp i2
    exact ⟨v, r, e, Rep.imm d v i3 h1, Reps.imm ds r i4 h2⟩
end
theorem Reps.len : ∀ {ds : List D} {vs : List V}, Reps K T B M H ds vs → vs.length = ds.length
  | [], _, h => by rw [show _ = [] from h] <;> rfl
  | d :: ds, _, ⟨v, r, e, h1, h2⟩ => by rw [e, List.length_cons, List.length_cons, Reps.len h2]
theorem Reps.get : ∀ {ds : List D} {vs : List V} {i : Nat} {d : D}, Reps K T B M H ds vs → ds[i]? = some d → ∃ v, vs[i]? = some v ∧ Rep K T B M H d v
  | [], _, _, _, _, e => by simp at e
  | d :: ds, _, 0, x, ⟨v, r, e, h1, h2⟩, q => by
    rw [List.getElem?_cons_zero] at q
    cases q
    exact ⟨v, by rw [e, List.getElem?_cons_zero], h1⟩
  | d :: ds, _, i + 1, x, ⟨v, r, e, h1, h2⟩, q => by
    rw [List.getElem?_cons_succ] at q
    obtain ⟨u, a, b⟩ := Reps.get h2 q
    exact ⟨u, by rw [e, List.getElem?_cons_succ]; exact a, b⟩
theorem Reps.get' : ∀ {ds : List D} {vs : List V} {i : Nat} {v : V}, Reps K T B M H ds vs → vs[i]? = some v → ∃ d, ds[i]? = some d ∧ Rep K T B M H d v := fun {ds vs i v} h e => by
  have hl := h.len
  have hi : i < ds.length := by rw [← hl]; exact (List.getElem?_eq_some_iff.mp e).1
  obtain ⟨u, a, b⟩ := h.get (List.getElem?_eq_getElem hi)
  rw [e] at a; cases a
  exact ⟨ds[i], List.getElem?_eq_getElem hi, b⟩
theorem Reps.append : ∀ {ds es : List D} {vs us : List V}, Reps K T B M H ds vs → Reps K T B M H es us → Reps K T B M H (ds ++ es) (vs ++ us)
  | [], _, _, _, h, g => by rw [show _ = [] from h]; exact g
  | d :: ds, es, _, us, ⟨v, r, e, h1, h2⟩, g => by rw [e]; exact ⟨v, r ++ us, rfl, h1, Reps.append h2 g⟩
theorem Reps.drop : ∀ (n : Nat) {ds : List D} {vs : List V}, Reps K T B M H ds vs → Reps K T B M H (ds.drop n) (vs.drop n)
  | 0, _, _, h => h
  | n + 1, [], _, h => by rw [show _ = [] from h]; rfl
  | n + 1, d :: ds, _, ⟨v, r, e, h1, h2⟩ => by rw [e]; exact Reps.drop n h2
theorem Reps.take : ∀ (n : Nat) {ds : List D} {vs : List V}, Reps K T B M H ds vs → Reps K T B M H (ds.take n) (vs.take n)
  | 0, _, _, _ => rfl
  | n + 1, [], _, h => by rw [show _ = [] from h]; rfl
  | n + 1, d :: ds, _, ⟨v, r, e, h1, h2⟩ => by rw [e]; exact ⟨v, r.take n, rfl, h1, Reps.take n h2⟩
theorem Reps.set : ∀ (n : Nat) {ds : List D} {vs : List V} {d : D} {v : V}, Reps K T B M H ds vs → Rep K T B M H d v → Reps K T B M H (ds.set n d) (vs.set n v)
  | _, [], _, _, _, h, _ => by rw [show _ = [] from h]; rfl
  | 0, d :: ds, _, d', v', ⟨v, r, e, h1, h2⟩, g => by rw [e]; exact ⟨v', r, rfl, g, h2⟩
  | n + 1, d :: ds, _, d', v', ⟨v, r, e, h1, h2⟩, g => by rw [e]; exact ⟨v, r.set n v', rfl, h1, Reps.set n h2 g⟩
theorem Reps.one {d : D} {v : V} (h : Rep K T B M H d v) : Reps K T B M H [d] [v] := ⟨v, [], rfl, h, rfl⟩
theorem Reps.rep {ds : List D} {vs : List V} (h : Reps K T B M H ds vs) : ∀ k : Nat, Reps K T B M H (List.replicate k ds).flatten (List.replicate k vs).flatten
  | 0 => rfl
  | k + 1 => by
    rw [List.replicate_succ, List.replicate_succ, List.flatten_cons, List.flatten_cons]
    exact h.append (Reps.rep h k)
theorem Reps.imp {ds : List D} {vs : List V} (h : Reps K T B M H ds vs) (w : ∀ d v, d ∈ ds → Rep K T B M H d v → Rep K T B M' H' d v) : Reps K T B M' H' ds vs := by
  induction ds generalizing vs with
  | nil => exact h
  | cons d ds ih =>
    obtain ⟨v, r, e, h1, h2⟩ := h
    exact ⟨v, r, e, w d v List.mem_cons_self h1, ih h2 fun d' v' hd => w d' v' (List.mem_cons_of_mem _ hd)⟩
end

/-! ### the situation of a frame -/
/-- where the script stands; the tables of code objects (a place, the name of what is made there) -/
structure LX where
  a : Addr
/-- the tables of code objects: entries from 1000 on -/
def tabsT (T : Tab) : List (Addr × Str) := (T 1000).2.map (fun q => ((T 1000).1, q)) ++ (T 1001).2.map (fun q => ((T 1001).1, q))
/-- the drawing list of the law: [list(script), place, rest, mix, count]; the tables -/
structure BagOk (T : Tab) (B : Option Addr) (L : LX) (H : Hp) : Prop where
  bg : ∀ b, B = some b → b ≠ L.a ∧ ∃ (ns : List Int) (i x m c : Int),
    H b = some (.lst [.ref L.a, .int i, .int x, .int m, .int c]) ∧ H L.a = some (.lst (ns.map V.int)) ∧ 0 ≤ i ∧ 0 ≤ x ∧ 0 ≤ m ∧ m < 2147483563 ∧ 0 ≤ c
  tb : LamX.Tabs (tabsT T) H
/-- B: the drawing list; X: the instance that is being made (in an __init__); H0: the heap at the entry; M: what the caller may change; P: what this frame may change (its own lists, the drawing list); G: values that must stay (what a loop walks) -/
structure Sit where
  B : Option Addr
  L : LX
  X : Option Addr
  H0 : Hp
  M : Addr → Prop
  P : Addr → Prop
  G : List (Nat × D × V)
abbrev Sit.N (S : Sit) : Addr → Prop := fun a => S.B = some a
abbrev Sit.N0 (S : Sit) : Addr → Prop := fun a => S.B = some a ∨ S.X = some a
/-- v g d: a value that stands for d (grade 0: as things stand; 1: whatever this frame changes; 2: whatever anyone changes); own ds: a list of this frame's own -/
inductive Sl where
  | un | v (g : Nat) (d : D) | own (ds : List D) | ins (c : Nat) (ds : List D)
abbrev DSt := List Sl
@[simp] def Sl.d : Sl → D
  | .v _ d => d
  | .own ds => .lst ds
  | .un => .non
  | .ins _ _ => .non
@[simp] def Sl.g : Sl → Nat
  | .v g _ => g
  | .own _ => 2
  | .un => 0
  | .ins _ _ => 0
def gset (S : Sit) : Nat → Addr → Prop
  | 0 => fun a => S.B = some a
  | 1 => S.P
  | _ + 2 => fun a => S.P a ∨ S.M a
abbrev RepG (K : PySem.W.Frag) (T : Tab) (S : Sit) (g : Nat) (H : Hp) (d : D) (v : V) : Prop := Rep K T S.B (gset S g) H d v
abbrev RepsG (K : PySem.W.Frag) (T : Tab) (S : Sit) (g : Nat) (H : Hp) (ds : List D) (vs : List V) : Prop := Reps K T S.B (gset S g) H ds vs
/-- the object that slot 0 of such a frame holds: an instance that is being made, or the drawing list (999) -/
def insO (T : Tab) (c : Nat) (dx : Addr) (n : Nat) (vs : List V) : HO := if c = 999 then .lst vs else .ins (T c).1 dx (((T c).2.take n).zip vs)
theorem insO_noT {T : Tab} {c : Nat} {dx : Addr} {n : Nat} {vs : List V} : noT (insO T c dx n vs) := by
  intro ps z
  unfold insO at z
  split at z <;> cases z
theorem insO_bag {T : Tab} {dx : Addr} {n : Nat} {vs : List V} : insO T 999 dx n vs = .lst vs := if_pos rfl
theorem insO_ins {T : Tab} {c : Nat} {dx : Addr} {n : Nat} {vs : List V} (h : c ≠ 999) : insO T c dx n vs = .ins (T c).1 dx (((T c).2.take n).zip vs) := if_neg h
structure SR (K : PySem.W.Frag) (T : Tab) (S : Sit) (τ : DSt) (σ : L2.St) (H : Hp) : Prop where
  len : τ.length = σ.length
  bp : ∀ a, S.B = some a → S.P a
  al : ∀ a, S.P a → Lv H a
  ml : ∀ a, S.M a → Lv S.H0 a
  kp : Kp S.N0 S.H0 H
  xp : ∀ a, S.X = some a → S.P a ∧ S.B ≠ some a
  fr : ∀ a, S.P a → S.B ≠ some a → S.X ≠ some a → Nv S.H0 a
  bl : ∀ a, S.B = some a → Lv S.H0 a
  bag : BagOk T S.B S.L H
  lp : ∀ b, S.B = some b → ¬ S.P S.L.a
  val : ∀ (i : Nat) (g : Nat) (d : D), τ[i]? = some (.v g d) → 1 ≤ g ∧ ∃ v, σ[i]? = some (some v) ∧ RepG K T S g H d v
  own : ∀ (i : Nat) (ds : List D), τ[i]? = some (.own ds) → ∃ p vs, σ[i]? = some (some (.ref p)) ∧ H p = some (.lst vs) ∧ S.P p ∧ S.B ≠ some p ∧ S.X ≠ some p ∧ RepsG K T S 2 H ds vs
  ins : ∀ (i c : Nat) (ds : List D), τ[i]? = some (.ins c ds) → i = 0 ∧ ∃ x dx vs, σ[i]? = some (some (.ref x)) ∧ H x = some (insO T c dx ds.length vs) ∧ S.X = some x ∧ RepsG K T S 2 H ds vs
  gh : ∀ x ∈ S.G, 1 ≤ x.1 ∧ RepG K T S x.1 H x.2.1 x.2.2
  inj : ∀ (i j : Nat) (ds es : List D) (p : Addr), τ[i]? = some (.own ds) → τ[j]? = some (.own es) → σ[i]? = some (some (.ref p)) → σ[j]? = some (some (.ref p)) → i = j
/-- behind an expression -/
structure Aft (K : PySem.W.Frag) (T : Tab) (S : Sit) (H H' : Hp) : Prop where
  kp : Kp S.N H H'
  bag : BagOk T S.B S.L H'
section
variable {K : PySem.W.Frag} {T : Tab} {S : Sit} {τ : DSt} {σ : L2.St} {H H' H1 H2 : Hp}
theorem Aft.trans (a : Aft K T S H H1) (b : Aft K T S H1 H2) : Aft K T S H H2 := ⟨a.kp.trans b.kp, b.bag⟩
theorem SR.gsub (r : SR K T S τ σ H) (g : Nat) : ∀ a, S.N a → gset S g a := by
  intro a h
  match g with
  | 0 => exact h
  | 1 => exact r.bp a h
  | _ + 2 => exact .inl (r.bp a h)
theorem SR.rep (r : SR K T S τ σ H1) {g : Nat} {d : D} {v : V} (k : Kp S.N H H') (h : RepG K T S g H d v) : RepG K T S g H' d v := Rep.kp k (r.gsub g) d v h
theorem SR.reps (r : SR K T S τ σ H1) {g : Nat} {ds : List D} {vs : List V} (k : Kp S.N H H') (h : RepsG K T S g H ds vs) : RepsG K T S g H' ds vs := Reps.kp k (r.gsub g) ds vs h
theorem gset_le (r : SR K T S τ σ H) {g g' : Nat} (h : g' ≤ g) : ∀ a, gset S g' a → gset S g a := by
  intro a x
  match g', g, h with
  | 0, g, _ => exact r.gsub g a x
  | 1, 1, _ => exact x
  | 1, _ + 2, _ => exact .inl x
  | _ + 2, _ + 2, _ => exact x
theorem RepG.le (r : SR K T S τ σ H1) {g g' : Nat} {d : D} {v : V} (h : g' ≤ g) (x : RepG K T S g H d v) : RepG K T S g' H d v := Rep.anti (gset_le r h) d v x
theorem RepsG.le (r : SR K T S τ σ H1) {g g' : Nat} {ds : List D} {vs : List V} (h : g' ≤ g) (x : RepsG K T S g H ds vs) : RepsG K T S g' H ds vs := Reps.anti (gset_le r h) ds vs x
theorem SR.aft (r : SR K T S τ σ H) (a : Aft K T S H H') : SR K T S τ σ H' where
  len := r.len
  bp := r.bp
  al := fun c h => a.kp.s c (r.al c h)
  ml := r.ml
  kp := r.kp.trans (a.kp.mono fun _ z => .inl z)
  xp := r.xp
  fr := r.fr
  bl := r.bl
  bag := a.bag
  lp := r.lp
  val := fun i g d e => by
    obtain ⟨h1, v, e1, h⟩ := r.val i g d e
    exact ⟨h1, v, e1, r.rep a.kp h⟩
  own := fun i ds e => by
    obtain ⟨p, vs, e1, e2, e3, e4, e5, h⟩ := r.own i ds e
    exact ⟨p, vs, e1, a.kp.k p _ e2 e4, e3, e4, e5, r.reps a.kp h⟩
  ins := fun i c ds e => by
    obtain ⟨z, x, dx, vs, e1, e2, e3, h⟩ := r.ins i c ds e
    exact ⟨z, x, dx, vs, e1, a.kp.k x _ e2 (r.xp x e3).2 insO_noT, e3, r.reps a.kp h⟩
  gh := fun x hx => ⟨(r.gh x hx).1, r.rep a.kp (r.gh x hx).2⟩
  inj := r.inj
theorem BagOk.kp {T : Tab} {B : Option Addr} {L : LX} {N : Addr → Prop} (h : BagOk T B L H) (k : Kp N H H') (tk : Tk H H') (n : ∀ b, B = some b → ¬ N b ∧ ¬ N L.a) : BagOk T B L H' := by
  refine ⟨fun b e => ?_, fun p hp => tk _ _ (h.tb p hp)⟩
  obtain ⟨h0, ns, i, x, m, c, h1, h2, h3⟩ := h.bg b e
  exact ⟨h0, ns, i, x, m, c, k.k b _ h1 (n b e).1, k.k L.a _ h2 (n b e).2, h3⟩
theorem BagOk.kp0 {T : Tab} {B : Option Addr} {L : LX} (h : BagOk T B L H) (k : Kp (fun _ => False) H H') (tk : Tk H H') : BagOk T B L H' := h.kp k tk fun _ _ => ⟨fun z => z, fun z => z⟩
theorem SR.laid (r : SR K T S τ σ H) {p : Addr} {o : HO} (hp : H p = none) : Aft K T S H (upd H p o) := ⟨Kp.laid hp, r.bag.kp0 (Kp.laid hp) (Tk.laid hp)⟩
theorem SR.same (r : SR K T S τ σ H) : Aft K T S H H := ⟨Kp.refl, r.bag⟩
/-- a new address is nobody's -/
theorem SR.newP (r : SR K T S τ σ H) {p : Addr} (hp : Nv H p) : ¬ S.P p := fun h => hp (r.al p h)
theorem SR.newM (r : SR K T S τ σ H) {p : Addr} (hp : Nv H p) : ¬ S.M p := fun h => hp (r.kp.s p (r.ml p h))
theorem SR.newG (r : SR K T S τ σ H) {p : Addr} (hp : Nv H p) (g : Nat) : ¬ gset S g p := by
  match g with
  | 0 => exact fun h => r.newP hp (r.bp p h)
  | 1 => exact r.newP hp
  | _ + 2 => exact fun h => h.elim (r.newP hp) (r.newM hp)
theorem SR.new0 (r : SR K T S τ σ H) {p : Addr} (hp : Nv H p) : Nv S.H0 p := fun h => hp (r.kp.s p h)
end
/-- what stands behind an expression whose value is the slot sl; p0: the heap ahead of it -/
def RepSl (K : PySem.W.Frag) (T : Tab) (S : Sit) (H H' : Hp) (sl : Sl) (v : V) : Prop := match sl with
  | .v g d => RepG K T S g H' d v
  | .own ds => ∃ p vs, v = .ref p ∧ Nv H p ∧ H' p = some (.lst vs) ∧ Reps K T S.B (fun a => gset S 2 a ∨ a = p) H' ds vs
  | .un => False
  | .ins _ _ => False
theorem RepSl.g {K : PySem.W.Frag} {T : Tab} {S : Sit} {τ : DSt} {σ : L2.St} {H H' : Hp} {sl : Sl} {v : V} (r : SR K T S τ σ H) (h : RepSl K T S H H' sl v) : RepG K T S sl.g H' sl.d v := by
  cases sl with
  | v g d => exact h
  | own ds =>
    obtain ⟨p, vs, e, h1, h2, h3⟩ := h
    exact ⟨p, vs, e, h2, r.newG h1 2, Reps.anti (fun _ z => .inl z) ds vs h3⟩
  | un => exact h.elim
  | ins c ds => exact h.elim
end DL
/-! DTst: the tests of a head (what they tell is proved in DLH, DLT, DN2, DQ3). -/
namespace DL
open PySem PySem.Spec PyProof.Rows L2
abbrev Tst : Type := PySem.W.Frag → Bool
mutual
def datB (K : PySem.W.Frag) : D → Value → Bool
  | .non, u => (match u with
    | .none => true
    | _ => false)
  | .bl b, u => (match u with
    | .bool c => b == c
    | _ => false)
  | .int i, u => (match u with
    | .int j _ => decide (i = j)
    | _ => false)
  | .str x, u => (match u with
    | .str y _ => decide (x = y)
    | _ => false)
  | .tup ds, u => (match u with
    | .ref a => (match K.lookup a with
      | some o => decide (o.cls = .type "tuple") && (match o.data with
        | .seq its _ => decide (its.size ≤ 1000) && datBs K ds its.toList
        | _ => false)
      | none => false)
    | _ => false)
  | _, _ => false
def datBs (K : PySem.W.Frag) : List D → List Value → Bool
  | [], us => us.isEmpty
  | d :: ds, us => (match us with
    | [] => false
    | u :: us => datB K d u && datBs K ds us)
end
def tCst (x : Str) (d : D) : Tst := fun K => match PySem.W.nsIn K mainGlobals x with
  | some (some u) => datB K d u
  | _ => false
def tRead (x : Str) : Tst := fun K => PySem.W.readsIn K (He.ga K x) (.type "type") && He.eqO (PySem.W.specialIn K (.ref (He.ga K x)) "__getattribute__") (some (some (.builtin "type.__getattribute__")))
def tCVal (x f : Str) (d : D) : Tst := fun K => match PySem.W.findCls K (.ref (He.ga K x)) (.type "type") f with
  | some (.val u) => datB K d u
  | _ => false
def tCMet (x m : Str) : Tst := fun K => He5.wrapB K (He.ga K x) "classmethod" "classmethod.__get__" m && PySem.W.fnIn K (He5.wf K (He.ga K x) "classmethod" m)
def tProp (x f : Str) : Tst := fun K => He.eqO (PySem.W.specialIn K (.ref (He.ma K (He.ga K x) f)) "__get__") (some (some (.builtin "property.__get__"))) && (decide (PySem.W.takesIn K (.ref (He.ma K (He.ga K x) f)) = some true) && (He.eqO (PySem.W.findIn K (.ref (He.ga K x)) f) (some (some (.ref (He.ma K (He.ga K x) f)))) && (match PySem.W.recIn K (He.ma K (He.ga K x) f) "property" with
  | some (.ref _ :: _) => true
  | _ => false)))
def seeB (ts : List Tst) (fn : List He5.DefA) (K : PySem.W.Frag) : He.AlD := (ts.all (fun t => t K) && fn.all (fun d => d.ok K), fn.map fun d => He5.fnA K (d.at_ K))
def mustB (fn : List He5.DefA) : He.AlD := (true, fn.map He5.DefA.val)
def seeG (n : Nat) (ts : List Tst) (fn : List He5.DefA) (g : Addr → Option Obj) : He.AlD := seeB ts fn (He.frG g (He5.asA g n))
structure Seen (ts : List Tst) (fn : List He5.DefA) (K : PySem.W.Frag) : Prop where
  e : seeB ts fn K = mustB fn
def hookB (n : Nat) (ts : List Tst) (fn : List He5.DefA) : PySem.W.Hook where
  α := He.AlD
  obs := fun s => seeG n ts fn s.heap.get?
  val := fun _ => mustB fn
  says := fun _ h => ∃ K : PySem.W.Frag, K.In h ∧ Seen ts fn K
  of := fun _ _ q => ⟨_, He.frG_in, ⟨q⟩⟩
  keeps := fun _ _ _ ⟨K, hK, c⟩ k => ⟨K, PySem.W.Frag.In.keeps hK k, c⟩
theorem seeG_eq {n : Nat} {ts : List Tst} {fn : List He5.DefA} {g : Addr → Option Obj} {s : Shared} (h : ∀ a, g a = s.heap.get? a) : seeG n ts fn g = (hookB n ts fn).obs s := by
  have q : g = s.heap.get? := funext h
  rw [q] <;> rfl
/-- the code object of the def x, its table -/
def tabP (K : PySem.W.Frag) (x : Str) : Addr × Addr := match PySem.W.tabIn K x with
  | some p => p
  | none => (0, 0)
/-- the part without those tables -/
def hid (xs : List Str) (K : PySem.W.Frag) : PySem.W.Frag := K.filter fun p => !(xs.map fun x => (tabP K x).2).contains p.1
def isTab : Option Obj → Bool
  | some ⟨.none, none, .fields vs, sl⟩ => vs.isEmpty && sl.isEmpty
  | _ => false
def tabB (xs : List Str) (K : PySem.W.Frag) : Bool := xs.all fun x => isTab (K.lookup (tabP K x).2) && (decide (PySem.W.tabIn (hid xs K) x = some (tabP K x)) && PySem.W.codeHdIn (hid xs K) (tabP K x).1 (tabP K x).2)
def tOex (x : Str) : Tst := fun K => (match K.lookup (He.ga K x) with
  | some ⟨.type "type", _, .cls cd, sl⟩ => (match cd.mro, sl.toList with
    | .ref C' :: bm, [_, _, _, _, some (.builtin n), _] => (C' == He.ga K x && (n == "ValueError.__new__" && (!cd.hasDel && (cd.hasDict && PySem.HandSPX.refsVE bm))))
    | _, _ => false)
  | _ => false) && (He.eqO (PySem.W.findIn K (.ref (He.ga K x)) "__setattr__") (some (some (.builtin "object.__setattr__"))) && (decide (PySem.W.subIn K (.ref (He.ga K x)) (.type "BaseException") = some true) && (decide (PySem.W.typeIn K (.ref (He.ga K x)) = some (.type "type")) && PySem.W.keepIn K (.ref (He.ga K x)))))
def errTab : List (Str × List Str) := [("BadRow", ["number"]), ("BadCount", ["number"]), ("BadSpan", []), ("BadPieces", ["at"]), ("TooManyPieces", ["most"]), ("BadCommand", ["at"]), ("Clash", ["label", "other"]), ("BadCell", []), ("BadContent", []), ("Gone", ["cell"]), ("Ring", ["cell"]), ("Full", ["most"]), ("BadDeed", ["at"]), ("BadName", ["name"]), ("Taken", ["name"]), ("BadText", ["at"])]
def errNames : List Str := ["word", "number", "at", "name", "cell", "most", "label", "other"]
def tErr (x : Str) : Tst := fun K => xfB K (He.ga K x) && (errNames.all (fun n => He.eqO (PySem.W.findIn K (.ref (He.ga K x)) n) (some none)) && decide (PySem.W.exmOne K (.ref (He.ga K x)) (.ref (He.ga K "SpanError")) = some true))
/-- all sixteen classes -/
def tErrs : Tst := fun K => errTab.all fun p => (He.Fa.free p.1).ok K || ((He.Fa.glo p.1).ok K && tErr p.1 K)
def seeT (n : Nat) (ts : List Tst) (fn : List He5.DefA) (xs : List Str) (g : Addr → Option Obj) : Bool × He.AlD := (tabB xs (He.frG g (He5.asA g n)), seeB ts fn (hid xs (He.frG g (He5.asA g n))))
def hookT (n : Nat) (ts : List Tst) (fn : List He5.DefA) (xs : List Str) : PySem.W.Hook where
  α := Bool × He.AlD
  obs := fun s => seeT n ts fn xs s.heap.get?
  val := fun _ => (true, mustB fn)
  says := fun _ h => ∃ K : PySem.W.Frag, K.In h ∧ tabB xs K = true ∧ Seen ts fn (hid xs K)
  of := fun _ _ q => ⟨_, He.frG_in, (Prod.mk.inj q).1, ⟨(Prod.mk.inj q).2⟩⟩
  keeps := fun _ _ _ ⟨K, hK, t, c⟩ k => ⟨K, PySem.W.Frag.In.keeps hK k, t, c⟩
theorem seeT_eq {n : Nat} {ts : List Tst} {fn : List He5.DefA} {xs : List Str} {g : Addr → Option Obj} {s : Shared} (h : ∀ a, g a = s.heap.get? a) : seeT n ts fn xs g = (hookT n ts fn xs).obs s := by
  have q : g = s.heap.get? := funext h
  rw [q] <;> rfl
def tDist (x y : Str) : Tst := fun K => decide ((tabP K x).2 ≠ (tabP K y).2)
def kinds : List String := ["NoneType", "bool", "int", "str", "tuple", "list"]
def tKnd (x : Str) : Tst := fun K => kinds.all fun n => decide (PySem.W.kitOne K (.type n) (.ref (He.ga K x)) = some false) && decide (PySem.W.subIn K (.type n) (.ref (He.ga K x)) = some false)
def tEqD (x : Str) : Tst := fun K => decide (PySem.W.mroIn K (He.ga K x) (.type "object") = some true) && He.eqO (PySem.W.findIn K (.ref (He.ga K x)) "__ne__") (some (some (.builtin "object.__ne__")))
def tInsC (x : Str) : Tst := fun K => He.eqO (PySem.W.findIn K (.ref (He.ga K x)) "__class__") (some (some (.builtin "object.__class__"))) && (He.eqO (PySem.W.specialIn K (.builtin "object.__class__") "__get__") (some (some (.builtin "getset_descriptor.__get__"))) &&
  (decide (PySem.W.takesIn K (.builtin "object.__class__") = some true) && (decide (PySem.W.mroIn K (He.ga K x) (.type "object") = some true) && decide (PySem.W.kitOne K (.ref (He.ga K x)) (.ref (He.ga K x)) = some true))))
end DL
namespace PR
open PySem PySem.Spec PyProof.Rows L2 DL
def top (i : Nat) : Stmt := PySem.Challenge.pw_spanrows_k04_rows_of_layouts.main.body.getD i (.Pass ⟨0, 0, 0, 0⟩)
abbrev s__law_bag : Stmt := top 33
abbrev s__law_pull : Stmt := top 34
abbrev s__law_of : Stmt := top 35
abbrev s__law_any_rows : Stmt := top 40
abbrev s__law_far : Stmt := top 43
abbrev s_size_of : Stmt := top 2
abbrev s_is_piece : Stmt := top 28
abbrev s_first_label : Stmt := top 3
abbrev s_last_label : Stmt := top 4
abbrev s_may_follow : Stmt := top 29
abbrev s_check_pieces : Stmt := top 30
abbrev s_welded : Stmt := top 7
abbrev s_normal : Stmt := top 8
abbrev s_Layout___init__ : Stmt := inClass (top 31) 1
abbrev s__law_rolled : Stmt := top 39
abbrev s__law_made_of : Stmt := top 42
abbrev s__law_like : Stmt := top 36
abbrev s_Layout_pieces : Stmt := inClass (top 31) 7
abbrev s__law_is_layout : Stmt := top 41
abbrev s_parts_of : Stmt := top 5
abbrev s_cut : Stmt := top 6
abbrev s_label_at : Stmt := top 9
abbrev s_Layout_row : Stmt := inClass (top 31) 8
abbrev s_Layout_where : Stmt := inClass (top 31) 9
abbrev s_Layout_top : Stmt := inClass (top 31) 4
abbrev s_Layout_tail : Stmt := inClass (top 31) 5
abbrev s_Layout_shift : Stmt := inClass (top 31) 6
abbrev s_law : Stmt := top 44
abbrev s__law_told : Stmt := top 38
abbrev s__law_field : Stmt := top 37
abbrev s_BadRow___init__ : Stmt := inClass (top 12) 0
def df0 : He5.DefA := ⟨fun K => He.fAd K ("_law_bag", none), "_law_bag", "_law_bag", defArgs s__law_bag, defBody s__law_bag, defScope s__law_bag, [], []⟩
def df1 : He5.DefA := ⟨fun K => He.fAd K ("_law_pull", none), "_law_pull", "_law_pull", defArgs s__law_pull, defBody s__law_pull, defScope s__law_pull, [], []⟩
def df2 : He5.DefA := ⟨fun K => He.fAd K ("_law_of", none), "_law_of", "_law_of", defArgs s__law_of, defBody s__law_of, defScope s__law_of, [], []⟩
def df3 : He5.DefA := ⟨fun K => He.fAd K ("_law_any_rows", none), "_law_any_rows", "_law_any_rows", defArgs s__law_any_rows, defBody s__law_any_rows, defScope s__law_any_rows, [], []⟩
def df4 : He5.DefA := ⟨fun K => He.fAd K ("_law_far", none), "_law_far", "_law_far", defArgs s__law_far, defBody s__law_far, defScope s__law_far, [], []⟩
def df5 : He5.DefA := ⟨fun K => He.fAd K ("size_of", none), "size_of", "size_of", defArgs s_size_of, defBody s_size_of, defScope s_size_of, [], []⟩
def df6 : He5.DefA := ⟨fun K => He.fAd K ("is_piece", none), "is_piece", "is_piece", defArgs s_is_piece, defBody s_is_piece, defScope s_is_piece, [], []⟩
def df7 : He5.DefA := ⟨fun K => He.fAd K ("first_label", none), "first_label", "first_label", defArgs s_first_label, defBody s_first_label, defScope s_first_label, [], []⟩
def df8 : He5.DefA := ⟨fun K => He.fAd K ("last_label", none), "last_label", "last_label", defArgs s_last_label, defBody s_last_label, defScope s_last_label, [], []⟩
def df9 : He5.DefA := ⟨fun K => He.fAd K ("may_follow", none), "may_follow", "may_follow", defArgs s_may_follow, defBody s_may_follow, defScope s_may_follow, [], []⟩
def df10 : He5.DefA := ⟨fun K => He.fAd K ("check_pieces", none), "check_pieces", "check_pieces", defArgs s_check_pieces, defBody s_check_pieces, defScope s_check_pieces, [], []⟩
def df11 : He5.DefA := ⟨fun K => He.fAd K ("welded", none), "welded", "welded", defArgs s_welded, defBody s_welded, defScope s_welded, [], []⟩
def df12 : He5.DefA := ⟨fun K => He.fAd K ("normal", none), "normal", "normal", defArgs s_normal, defBody s_normal, defScope s_normal, [], []⟩
def df13 : He5.DefA := ⟨fun K => He.fAd K ("Layout", some "__init__"), "__init__", "Layout.__init__", defArgs s_Layout___init__, defBody s_Layout___init__, defScope s_Layout___init__, [], []⟩
def df14 : He5.DefA := ⟨fun K => He.fAd K ("_law_rolled", none), "_law_rolled", "_law_rolled", defArgs s__law_rolled, defBody s__law_rolled, defScope s__law_rolled, [], []⟩
def df15 : He5.DefA := ⟨fun K => He.fAd K ("_law_made_of", none), "_law_made_of", "_law_made_of", defArgs s__law_made_of, defBody s__law_made_of, defScope s__law_made_of, [], []⟩
def df16 : He5.DefA := ⟨fun K => He.fAd K ("_law_like", none), "_law_like", "_law_like", defArgs s__law_like, defBody s__law_like, defScope s__law_like, [], []⟩
def df17 : He5.DefA := ⟨fun K => He.fAd K ("Layout", some "pieces"), "pieces", "Layout.pieces", defArgs s_Layout_pieces, defBody s_Layout_pieces, defScope s_Layout_pieces, [], []⟩
def df18 : He5.DefA := ⟨fun K => He.fAd K ("_law_is_layout", none), "_law_is_layout", "_law_is_layout", defArgs s__law_is_layout, defBody s__law_is_layout, defScope s__law_is_layout, [], []⟩
def df19 : He5.DefA := ⟨fun K => He.fAd K ("parts_of", none), "parts_of", "parts_of", defArgs s_parts_of, defBody s_parts_of, defScope s_parts_of, [], []⟩
def df20 : He5.DefA := ⟨fun K => He.fAd K ("cut", none), "cut", "cut", defArgs s_cut, defBody s_cut, defScope s_cut, [], []⟩
def df21 : He5.DefA := ⟨fun K => He.fAd K ("label_at", none), "label_at", "label_at", defArgs s_label_at, defBody s_label_at, defScope s_label_at, [], []⟩
def df22 : He5.DefA := ⟨fun K => He.fAd K ("Layout", some "row"), "row", "Layout.row", defArgs s_Layout_row, defBody s_Layout_row, defScope s_Layout_row, [], []⟩
def df23 : He5.DefA := ⟨fun K => He.fAd K ("Layout", some "where"), "where", "Layout.where", defArgs s_Layout_where, defBody s_Layout_where, defScope s_Layout_where, [], []⟩
def df24 : He5.DefA := ⟨fun K => He5.wf K (He.ga K "Layout") "property" "top", "top", "Layout.top", defArgs s_Layout_top, defBody s_Layout_top, defScope s_Layout_top, [], []⟩
def df25 : He5.DefA := ⟨fun K => He5.wf K (He.ga K "Layout") "property" "tail", "tail", "Layout.tail", defArgs s_Layout_tail, defBody s_Layout_tail, defScope s_Layout_tail, [], []⟩
def df26 : He5.DefA := ⟨fun K => He5.wf K (He.ga K "Layout") "property" "shift", "shift", "Layout.shift", defArgs s_Layout_shift, defBody s_Layout_shift, defScope s_Layout_shift, [], []⟩
def df27 : He5.DefA := ⟨fun K => He.fAd K ("law", none), "law", "law", defArgs s_law, defBody s_law, defScope s_law, [], []⟩
def df28 : He5.DefA := ⟨fun K => He.fAd K ("_law_told", none), "_law_told", "_law_told", defArgs s__law_told, defBody s__law_told, defScope s__law_told, [], []⟩
def df29 : He5.DefA := ⟨fun K => He.fAd K ("_law_field", none), "_law_field", "_law_field", defArgs s__law_field, defBody s__law_field, defScope s__law_field, [], []⟩
def df30 : He5.DefA := ⟨fun K => He.fAd K ("BadRow", some "__init__"), "__init__", "BadRow.__init__", defArgs s_BadRow___init__, defBody s_BadRow___init__, defScope s_BadRow___init__, [], []⟩
def fns0 : List He5.DefA := [df0, df1, df2, df3, df4, df5, df6, df7, df8, df9, df10, df11, df12, df13, df14, df15, df16, df17, df18, df19, df20, df21, df22, df23, df24, df25, df26, df27, df28, df29]
def fns1 : List He5.DefA := [df30]
def fns : List He5.DefA := fns0 ++ fns1
def ts0 : Tst := fun K => (He.Fa.glo "_law_bag").ok K
def ts1 : Tst := fun K => (He.Fa.glo "_law_pull").ok K
def ts2 : Tst := fun K => (He.Fa.glo "_law_of").ok K
def ts3 : Tst := fun K => (He.Fa.glo "_law_any_rows").ok K
def ts4 : Tst := fun K => (He.Fa.glo "_law_far").ok K
def ts5 : Tst := fun K => (He.Fa.glo "size_of").ok K
def ts6 : Tst := fun K => (He.Fa.glo "is_piece").ok K
def ts7 : Tst := fun K => (He.Fa.glo "first_label").ok K
def ts8 : Tst := fun K => (He.Fa.glo "last_label").ok K
def ts9 : Tst := fun K => (He.Fa.glo "may_follow").ok K
def ts10 : Tst := fun K => (He.Fa.glo "check_pieces").ok K
def ts11 : Tst := fun K => (He.Fa.glo "welded").ok K
def ts12 : Tst := fun K => (He.Fa.glo "normal").ok K
def ts13 : Tst := fun K => (He.Fa.glo "_law_rolled").ok K
def ts14 : Tst := fun K => (He.Fa.glo "_law_made_of").ok K
def ts15 : Tst := fun K => (He.Fa.glo "_law_like").ok K
def ts16 : Tst := fun K => (He.Fa.glo "_law_is_layout").ok K
def ts17 : Tst := fun K => (He.Fa.glo "parts_of").ok K
def ts18 : Tst := fun K => (He.Fa.glo "cut").ok K
def ts19 : Tst := fun K => (He.Fa.glo "label_at").ok K
def ts20 : Tst := fun K => (He.Fa.glo "law").ok K
def ts21 : Tst := fun K => (He.Fa.free "len").ok K
def ts22 : Tst := fun K => (He.Fa.free "range").ok K
def ts23 : Tst := fun K => (He.Fa.free "list").ok K
def ts24 : Tst := fun K => (He.Fa.free "tuple").ok K
def ts25 : Tst := fun K => (He.Fa.free "int").ok K
def ts26 : Tst := fun K => (He.Fa.free "max").ok K
def ts27 : Tst := fun K => (He.Fa.free "min").ok K
def ts28 : Tst := fun K => (He.Fa.free "all").ok K
def ts29 : Tst := fun K => (He.Fa.free "any").ok K
def ts30 : Tst := fun K => (He.Fa.free "enumerate").ok K
def ts31 : Tst := fun K => (He.Fa.free "isinstance").ok K
def ts32 : Tst := fun K => (He.Fa.free "sorted").ok K
def ts33 : Tst := fun K => (He.Fa.free "set").ok K
def ts34 : Tst := fun K => (He.Fa.free "sum").ok K
def ts35 : Tst := fun K => (He.Fa.free "str").ok K
def ts36 : Tst := fun K => (He.Fa.free "repr").ok K
def ts37 : Tst := fun K => (He.Fa.free "bool").ok K
def ts38 : Tst := fun K => (He.Fa.glo "Layout").ok K
def ts39 : Tst := fun K => (He.Fa.cls "Layout").ok K
def ts40 : Tst := fun K => (He.Fa.noat "Layout" "row_pieces").ok K
def ts41 : Tst := tRead "Layout"
def ts42 : Tst := fun K => (He.Fa.mkr "Layout").ok K
def ts43 : Tst := fun K => (He.Fa.meth "Layout" "pieces").ok K
def ts44 : Tst := fun K => (He.Fa.meth "Layout" "row").ok K
def ts45 : Tst := fun K => (He.Fa.meth "Layout" "where").ok K
def ts46 : Tst := tProp "Layout" "top"
def ts47 : Tst := tProp "Layout" "tail"
def ts48 : Tst := tProp "Layout" "shift"
def ts49 : Tst := tCVal "Layout" "LIMIT" (.int 60)
def ts50 : Tst := fun K => (He.Fa.glo "SpanError").ok K
def ts51 : Tst := fun K => (He.Fa.glo "NoName").ok K
def ts52 : Tst := fun K => (He.Fa.glo "NothingLeft").ok K
def ts53 : Tst := fun K => (He.Fa.glo "_law_told").ok K
def ts54 : Tst := fun K => (He.Fa.glo "_law_field").ok K
def ts55 : Tst := fun K => (He.Fa.glo "BadRow").ok K
def ts56 : Tst := tErrs
def ts57 : Tst := tOex "BadRow"
def ts58 : Tst := fun K => (He.Fa.meth "BadRow" "__init__").ok K
def ts59 : Tst := fun K => (He.Fa.noat "BadRow" "word").ok K
def ts60 : Tst := fun K => (He.Fa.noat "BadRow" "number").ok K
def tss0 : List Tst := [ts0, ts1, ts2, ts3, ts4, ts5, ts6, ts7, ts8, ts9, ts10, ts11, ts12, ts13, ts14, ts15, ts16, ts17, ts18, ts19, ts20, ts21, ts22, ts23, ts24, ts25, ts26, ts27, ts28, ts29]
def tss1 : List Tst := [ts30, ts31, ts32, ts33, ts34, ts35, ts36, ts37, ts38, ts39, ts40, ts41, ts42, ts43, ts44, ts45, ts46, ts47, ts48, ts49, ts50, ts51, ts52, ts53, ts54, ts55, ts56, ts57, ts58, ts59]
def tss2 : List Tst := [ts60]
def tss : List Tst := tss0 ++ tss1 ++ tss2
def loose0 : List Str := ["_wall", "__name__", "size_of", "first_label", "last_label", "parts_of", "cut", "welded", "normal", "label_at", "SpanError", "BadRow", "BadPieces", "TooManyPieces", "BadText", "NoName", "NothingLeft", "DIGITS", "MOST_DIGITS", "number_in", "numbers_in", "piece_text", "old_piece", "piece_in", "pieces_in", "is_piece", "may_follow", "check_pieces", "Layout", "_law_bag"]
def loose1 : List Str := ["_law_pull", "_law_of", "_law_like", "_law_field", "_law_told", "_law_rolled", "_law_any_rows", "_law_is_layout", "_law_made_of", "_law_far"]
def loose : List Str := loose0 ++ loose1
abbrev R : PySem.W.OpenRow := PySem.W.OpenLaw.row PySem.Challenge.rw_spanrows_k04_rows_of_layouts
abbrev hk : PySem.W.Hook := hookT 5 tss fns ["law"]
def ob (s : PySem.W.SharedT) : Bool × He.AlD := seeT 5 tss fns ["law"] (HandSHeadRun.getT s)
theorem ob_eq (s : PySem.W.SharedT) : ob s = hk.obs s.abs := seeT_eq (HandSHeadRun.getT_eq s)
set_option maxHeartbeats 0 in
theorem run (w : World) : HandSHeadRun.RunEq R (PySem.W.view R.prog [44]) hk ob 20000 loose w := by
  intro os
  kernel_rfl
end PR
/-! DL2: judgements over data: readings of expressions, tests, arguments, statements; the plain rules. -/
namespace L2
open PySem PySem.Spec PyProof.Rows
theorem PE.of {X : Cx} {e : Expr} {t t' : TE} (h : PE X e t) (w : ∀ σ H Q, t' σ H Q → t σ H Q) : PE X e t' := ⟨fun pins s σ H Q I q => h.run pins s σ H Q I (w σ H Q q)⟩
theorem PT.of {X : Cx} {e : Expr} {t t' : TT} (h : PT X e t) (w : ∀ σ H Q, t' σ H Q → t σ H Q) : PT X e t' := ⟨fun pins s σ H Q I q => h.run pins s σ H Q I (w σ H Q q)⟩
theorem PW.of {X : Cx} {e : Expr} {t t' : TT} (h : PW X e t) (w : ∀ σ H Q, t' σ H Q → t σ H Q) : PW X e t' := ⟨fun wh pins s σ H Q I q => h.run wh pins s σ H Q I (w σ H Q q)⟩
theorem PA.of {X : Cx} {e : List Expr} {t t' : TA} (h : PA X e t) (w : ∀ σ H Q, t' σ H Q → t σ H Q) : PA X e t' := ⟨fun pos pins s σ H Q I q => h.run pos pins s σ H Q I (w σ H Q q)⟩
theorem PS.of {X : Cx} {e : Stmt} {t t' : TS} (h : PS X e t) (w : ∀ D σ H, t' D σ H → t D σ H) : PS X e t' := ⟨fun pins s σ H D I q => h.run pins s σ H D I (w D σ H q)⟩
theorem PSs.of {X : Cx} {e : List Stmt} {t t' : TS} (h : PSs X e t) (w : ∀ D σ H, t' D σ H → t D σ H) : PSs X e t' := ⟨fun pins s σ H D I q => h.run pins s σ H D I (w D σ H q)⟩

end L2
namespace DL
open PySem PySem.Spec PyProof.Rows L2

abbrev DTE := DSt → (Sl → Prop) → Prop
abbrev DTT := DSt → (Bool → Prop) → Prop
abbrev DTA := DSt → (Nat → List D → Prop) → Prop
/-- an error that leaves: its class by name, its fields (the last set first) -/
structure Er where
  c : Str
  fs : List (Str × D)
/-- a frame's globals, what it may let out -/
structure EK where
  mg : Str → Option Value
  E : XK
structure DEnds where
  nx : DSt → Prop
  rt : Sl → Prop
  bk : DSt → Prop := fun _ => False
  ct : DSt → Prop := fun _ => False
  rb : DSt → D → Prop := fun _ _ => False
  er : Er → Prop := fun _ => False
abbrev DTS := DEnds → DSt → Prop
section
variable (K : PySem.W.Frag) (T : Tab)
def UpE (t : DTE) : TE := fun σ H Q => ∃ (S : Sit) (τ : DSt) (QD : Sl → Prop), SR K T S τ σ H ∧ t τ QD ∧ ∀ H' v sl, Aft K T S H H' → RepSl K T S H H' sl v → QD sl → Q v H'
def UpT (t : DTT) : TT := fun σ H Q => ∃ (S : Sit) (τ : DSt) (QD : Bool → Prop), SR K T S τ σ H ∧ t τ QD ∧ ∀ H' b, Aft K T S H H' → QD b → Q b H'
def UpA (t : DTA) : TA := fun σ H Q => ∃ (S : Sit) (τ : DSt) (QD : Nat → List D → Prop), SR K T S τ σ H ∧ t τ QD ∧ ∀ H' vs g ds, Aft K T S H H' → RepsG K T S g H' ds vs → QD g ds → Q vs H'
/-- what is handed back: for whoever holds B, M -/
def RepR (B : Option Addr) (M : Addr → Prop) (H0 H' : Hp) (sl : Sl) (v : V) : Prop := match sl with
  | .v _ d => Rep K T B (fun a => M a ∨ B = some a) H' d v
  | .own ds => ∃ p vs, v = .ref p ∧ Nv H0 p ∧ H' p = some (.lst vs) ∧ Reps K T B (fun a => (M a ∨ B = some a) ∨ a = p) H' ds vs
  | .un => False
  | .ins _ _ => False
def isSc : D → V → Prop
  | .int i, v => v = .int i
  | .bl b, v => v = .bl b
  | .non, v => v = .non
  | .str x, v => v = .str x
  | _, _ => False
/-- the error that flies stands for er -/
def ErR (mg : Str → Option Value) (B : Option Addr) (H : Hp) (er : Er) (cls : Value) (d : Option Addr) : Prop := ∃ (C dx : Addr) (vs : List V), mg er.c = some (.ref C) ∧ cls = .ref C ∧ d = some dx ∧ H dx = some (.xd ((er.fs.map (·.1)).zip vs)) ∧ immAll (er.fs.map (·.2)) = true ∧ Reps K T B (fun _ => True) H (er.fs.map (·.2)) vs
structure Out (ek : EK) (S : Sit) (DD : DEnds) (D : Ends) : Prop where
  nx : ∀ P' τ' σ' H', SR K T { S with P := P' } τ' σ' H' → DD.nx τ' → D.nx σ' H'
  bk : ∀ P' τ' σ' H', SR K T { S with P := P' } τ' σ' H' → DD.bk τ' → D.bk σ' H'
  ct : ∀ P' τ' σ' H', SR K T { S with P := P' } τ' σ' H' → DD.ct τ' → D.ct σ' H'
  rt : ∀ H' v sl, Kp S.N0 S.H0 H' → BagOk T S.B S.L H' → RepR K T S.B S.M S.H0 H' sl v → DD.rt sl → D.rt v H'
  rb : ∀ P' τ' σ' H' d v, SR K T { S with P := P' } τ' σ' H' → isSc d v → DD.rb τ' d → D.rt v H'
  er : ∀ H' er cls d, Kp S.N0 S.H0 H' → BagOk T S.B S.L H' → ErR K T ek.mg S.B H' er cls d → DD.er er → ek.E cls d H'
def UpS (ek : EK) (t : DTS) : TS := fun D σ H => ∃ (S : Sit) (τ : DSt) (DD : DEnds), SR K T S τ σ H ∧ t DD τ ∧ Out K T ek S DD D
end
section
variable {K : PySem.W.Frag} {T : Tab} {S : Sit} {τ : DSt} {σ : L2.St} {H H' H1 H2 H3 : Hp}
theorem RepSl.aft (r : SR K T S τ σ H1) {sl : Sl} {v : V} (hb : ∀ a, S.B = some a → Lv H a) (h : RepSl K T S H H1 sl v) (a : Aft K T S H1 H2) : RepSl K T S H H2 sl v := by
  cases sl with
  | v g d => exact r.rep a.kp h
  | own ds =>
    obtain ⟨p, vs, e, h1, h2, h3⟩ := h
    exact ⟨p, vs, e, h1, a.kp.k p _ h2 (fun z => h1 (hb p z)), Reps.kp a.kp (fun c z => .inl (r.gsub 2 c z)) ds vs h3⟩
  | un => exact h
  | ins c ds => exact h
theorem RepSl.back {sl : Sl} {v : V} (h : RepSl K T S H1 H2 sl v) (a : Aft K T S H H1) : RepSl K T S H H2 sl v := by
  cases sl with
  | v g d => exact h
  | own ds =>
    obtain ⟨p, vs, e, h1, h2, h3⟩ := h
    exact ⟨p, vs, e, fun z => h1 (a.kp.s p z), h2, h3⟩
  | un => exact h
  | ins c ds => exact h
theorem SR.bal (r : SR K T S τ σ H) : ∀ a, S.B = some a → Lv H a := fun a h => r.al a (r.bp a h)
end

/-- data need nobody's care if they hold no list -/
def up (g : Nat) (d : D) : Nat := match g with
  | 0 => bif d.imm then 2 else 0
  | 1 => bif d.imm then 2 else 1
  | g + 2 => g + 2
def upl (g : Nat) (ds : List D) : Nat := match g with
  | 0 => bif immAll ds then 2 else 0
  | 1 => bif immAll ds then 2 else 1
  | g + 2 => g + 2
@[simp] theorem up_0 (d : D) : up 0 d = bif d.imm then 2 else 0 := rfl
@[simp] theorem up_1 (d : D) : up 1 d = bif d.imm then 2 else 1 := rfl
@[simp] theorem up_2 (d : D) : up 2 d = 2 := rfl
@[simp] theorem upl_0 (d : List D) : upl 0 d = bif immAll d then 2 else 0 := rfl
@[simp] theorem upl_1 (d : List D) : upl 1 d = bif immAll d then 2 else 1 := rfl
@[simp] theorem upl_2 (d : List D) : upl 2 d = 2 := rfl
theorem up_g {g : Nat} {d : D} (hg : g = 1 ∨ g = 2) (h : d.imm = true) : up g d = 2 := by
  rcases hg with rfl | rfl
  · rw [up_1, h]; rfl
  · rfl
theorem RepG.up {K : PySem.W.Frag} {T : Tab} {S : Sit} {g : Nat} {H : Hp} {d : D} {v : V} (h : RepG K T S g H d v) : RepG K T S (DL.up g d) H d v := by
  cases e : d.imm with
  | true => exact Rep.imm d v e h
  | false => match g, h with
    | 0, h => unfold DL.up; simp only [e]; exact h
    | 1, h => unfold DL.up; simp only [e]; exact h
    | g + 2, h => exact h
theorem RepsG.upl {K : PySem.W.Frag} {T : Tab} {S : Sit} {g : Nat} {H : Hp} {d : List D} {v : List V} (h : RepsG K T S g H d v) : RepsG K T S (DL.upl g d) H d v := by
  cases e : immAll d with
  | true => exact Reps.imm d v e h
  | false => match g, h with
    | 0, h => unfold DL.upl; simp only [e]; exact h
    | 1, h => unfold DL.upl; simp only [e]; exact h
    | g + 2, h => exact h

/-! ### names, constants -/
@[simp] def dVar (i : Nat) : DTE := fun τ Q => match τ[i]? with
  | some (.v g d) => Q (.v g d)
  | some (.own ds) => Q (.v 0 (.lst ds))
  | _ => False
@[simp] def dK (d : D) : DTE := fun _ Q => Q (.v 2 d)
section
variable {X : Cx} {T : Tab}
theorem de_var {i : Nat} {x : Str} {pos : Pos} (hN : X.N[i]? = some x) (hv : Vis X.env.scope x) (hd : (x == ("__debug__" : Str)) = false := by decide) (hcd : (x == ("__classdict__" : Str)) = false := by decide) : PE X (.Name x pos) (UpE X.K T (dVar i)) :=
  (pe_var hN hv hd hcd).of fun σ H Q ⟨S, τ, QD, sr, h, k⟩ => by
    unfold dVar at h
    cases e : τ[i]? with
    | none => rw [e] at h; exact h.elim
    | some sl =>
      rw [e] at h
      cases sl with
      | un => exact h.elim
      | ins c ds => exact h.elim
      | v g d =>
        obtain ⟨_, v, e1, r⟩ := sr.val i g d e
        exact ⟨v, e1, k H v (.v g d) sr.same r h⟩
      | own ds =>
        obtain ⟨p, vs, e1, e2, e3, e4, e5, r⟩ := sr.own i ds e
        exact ⟨.ref p, e1, k H _ (.v 0 (.lst ds)) sr.same ⟨p, vs, rfl, e2, e4, RepsG.le sr (Nat.zero_le 2) r⟩ h⟩
theorem de_none {k : Nat} {pos : Pos} : PE X (.Constant .none k pos) (UpE X.K T (dK .non)) := pe_non.of fun σ H Q ⟨S, τ, QD, sr, h, k⟩ => k H _ (.v 2 .non) sr.same rfl h
theorem de_int {i : Int} {k : Nat} {pos : Pos} : PE X (.Constant (.int i) k pos) (UpE X.K T (dK (.int i))) := pe_int.of fun σ H Q ⟨S, τ, QD, sr, h, k⟩ => k H _ (.v 2 (.int i)) sr.same rfl h
theorem de_str {i : Str} {k : Nat} {pos : Pos} : PE X (.Constant (.str i) k pos) (UpE X.K T (dK (.str i))) := pe_str.of fun σ H Q ⟨S, τ, QD, sr, h, k⟩ => k H _ (.v 2 (.str i)) sr.same rfl h
theorem de_bool {i : Bool} {k : Nat} {pos : Pos} : PE X (.Constant (.bool i) k pos) (UpE X.K T (dK (.bl i))) := pe_bl.of fun σ H Q ⟨S, τ, QD, sr, h, k⟩ => k H _ (.v 2 (.bl i)) sr.same rfl h

/-! ### operators -/
abbrev DF2 := Nat → D → Nat → D → (Sl → Prop) → Prop
@[simp] def dOp (f : DF2) (ta tb : DTE) : DTE := fun τ Q => ta τ fun x => tb τ fun y => f x.g x.d y.g y.d Q
def R2D (K : PySem.W.Frag) (T : Tab) (r : R2) (f : DF2) : Prop := ∀ (S : Sit) (τ : DSt) (σ : L2.St) (H : Hp) (g : Nat) (d : D) (g' : Nat) (d' : D) (v u : V) (QD : Sl → Prop) (Q : VK), SR K T S τ σ H → RepG K T S g H d v → RepG K T S g' H d' u → f g d g' d' QD →
  (∀ H' w sl, Aft K T S H H' → RepSl K T S H H' sl w → QD sl → Q w H') → r v u H Q
theorem up_op {r : R2} {f : DF2} {ta tb : DTE} (hr : R2D X.K T r f) {σ : L2.St} {H : Hp} {Q : VK} (h : UpE X.K T (dOp f ta tb) σ H Q) : tOp r (UpE X.K T ta) (UpE X.K T tb) σ H Q := by
  obtain ⟨S, τ, QD, sr, h, k⟩ := h
  refine ⟨S, τ, _, sr, h, fun H1 v x a1 r1 q1 => ⟨S, τ, _, sr.aft a1, q1, fun H2 u y a2 r2 q2 => ?_⟩⟩
  have s1 := sr.aft a1
  have s2 := s1.aft a2
  exact hr S τ σ H2 _ _ _ _ v u _ Q s2 (s1.rep a2.kp (r1.g sr)) (r2.g s1) q2 fun H' w sl a3 r3 q3 => k H' w sl (a1.trans (a2.trans a3)) (r3.back (a1.trans a2)) q3
theorem de_op {op : Operator} {a b : Expr} {pos : Pos} {r : R2} {f : DF2} {ta tb : DTE} (ho : OpR X (binaryOp op) r) (hr : R2D X.K T r f) (ha : PE X a (UpE X.K T ta)) (hb : PE X b (UpE X.K T tb)) : PE X (.BinOp a op b pos) (UpE X.K T (dOp f ta tb)) :=
  (pe_op ho ha hb).of fun _ _ _ h => up_op hr h
theorem de_cmp {op : CmpOp} {a b : Expr} {pos : Pos} {r : R2} {f : DF2} {ta tb : DTE} (ho : OpR X (compareOp op) r) (hr : R2D X.K T r f) (ha : PE X a (UpE X.K T ta)) (hb : PE X b (UpE X.K T tb)) (hm : behindInMarks op b = false) : PE X (.Compare a [op] [b] pos) (UpE X.K T (dOp f ta tb)) :=
  (pe_cmpR ho ha hb hm).of fun _ _ _ h => up_op hr h
theorem de_ix {a b : Expr} {pos : Pos} {r : R2} {f : DF2} {ta tb : DTE} (ho : IxR X r) (hr : R2D X.K T r f) (ha : PE X a (UpE X.K T ta)) (hb : PE X b (UpE X.K T tb)) (hs : PlainIx b) : PE X (.Subscript a b pos) (UpE X.K T (dOp f ta tb)) :=
  (pe_ix ho ha hb hs).of fun _ _ _ h => up_op hr h
theorem R2D.or {K : PySem.W.Frag} {r r' : R2} {f f' f'' : DF2} (h : R2D K T r f) (h' : R2D K T r' f') (w : ∀ g d g' d' Q, f'' g d g' d' Q → f g d g' d' Q ∨ f' g d g' d' Q) : R2D K T (fun x y H Q => r x y H Q ∨ r' x y H Q) f'' := by
  intro S τ σ H g d g' d' v u QD Q sr r1 r2 q k
  rcases w _ _ _ _ _ q with q | q
  · exact .inl (h S τ σ H g d g' d' v u QD Q sr r1 r2 q k)
  · exact .inr (h' S τ σ H g d g' d' v u QD Q sr r1 r2 q k)
/-- two ints, an answer -/
@[simp] def fI (C : Int → Int → Prop) (f : Int → Int → D) : DF2 := fun _ d _ d' Q => match d, d' with
  | .int i, .int j => C i j ∧ Q (.v 2 (f i j))
  | _, _ => False
@[simp] def fI0 (f : Int → Int → D) : DF2 := fun _ d _ d' Q => match d, d' with
  | .int i, .int j => Q (.v 2 (f i j))
  | _, _ => False
theorem isSc.rep {K : PySem.W.Frag} {B : Option Addr} {M : Addr → Prop} {H : Hp} {d : D} {v : V} (h : isSc d v) : Rep K T B M H d v := by
  cases d <;> first | exact h | exact h.elim
theorem r2_I {K : PySem.W.Frag} {C : Int → Int → Prop} {f : Int → Int → D} {g : Int → Int → V} (hs : ∀ i j, isSc (f i j) (g i j)) : R2D K T (rI C g) (fI C f) := by
  intro S τ σ H g1 d g2 d' v u QD Q sr r1 r2 q k
  unfold fI at q
  split at q
  · rename_i i j
    obtain ⟨c, q⟩ := q
    exact ⟨i, j, r1, r2, c, k H _ (.v 2 (f i j)) sr.same (isSc.rep (hs i j)) q⟩
  · exact q.elim
theorem r2_I0 {K : PySem.W.Frag} {f : Int → Int → D} {g : Int → Int → V} (hs : ∀ i j, isSc (f i j) (g i j)) : R2D K T (rI0 g) (fI0 f) := by
  intro S τ σ H g1 d g2 d' v u QD Q sr r1 r2 q k
  unfold fI0 at q
  split at q
  · rename_i i j
    exact ⟨i, j, r1, r2, k H _ (.v 2 (f i j)) sr.same (isSc.rep (hs i j)) q⟩
  · exact q.elim
end

/-! ### statements -/
section
variable {X : Cx} {T : Tab} {ek : EK} {st : Stmt} {rest : List Stmt} {t u : DTS} {e : Expr} {te : DTE} {pos : Pos}
@[simp] def dSeq (t u : DTS) : DTS := fun D τ => t { D with nx := u D } τ
@[simp] def dNext : DTS := fun D τ => D.nx τ
theorem Out.then {K : PySem.W.Frag} {ek : EK} {S : Sit} {DD : DEnds} {D : Ends} {u : DTS} (o : Out K T ek S DD D) : Out K T ek S { DD with nx := u DD } { D with nx := UpS K T ek u D } :=
  ⟨fun P' τ' σ' H' sr q => ⟨{ S with P := P' }, τ', DD, sr, q, ⟨fun P2 => o.nx P2, fun P2 => o.bk P2, fun P2 => o.ct P2, fun H2 v sl a b => o.rt H2 v sl a b, fun P2 => o.rb P2, o.er⟩⟩, o.bk, o.ct, o.rt, o.rb, o.er⟩
theorem ds_nil : PSs X [] (UpS X.K T ek dNext) := pss_nil.of fun D σ H ⟨S, τ, DD, sr, h, o⟩ => o.nx S.P τ σ H sr h
theorem ds_cons (h1 : PS X st (UpS X.K T ek t)) (h2 : PSs X rest (UpS X.K T ek u)) : PSs X (st :: rest) (UpS X.K T ek (dSeq t u)) :=
  (pss_cons h1 h2).of fun D σ H ⟨S, τ, DD, sr, h, o⟩ => ⟨S, τ, _, sr, h, o.then⟩
theorem ds_one (h1 : PS X st (UpS X.K T ek t)) : PSs X [st] (UpS X.K T ek t) := pss_one h1
theorem ds_pass : PS X (.Pass pos) (UpS X.K T ek dNext) := ps_pass.of fun D σ H ⟨S, τ, DD, sr, h, o⟩ => o.nx S.P τ σ H sr h
@[simp] def dBrk : DTS := fun D τ => D.bk τ
@[simp] def dCont : DTS := fun D τ => D.ct τ
theorem ds_break : PS X (.Break pos) (UpS X.K T ek dBrk) := ps_break.of fun D σ H ⟨S, τ, DD, sr, h, o⟩ => o.bk S.P τ σ H sr h
theorem ds_cont : PS X (.Continue pos) (UpS X.K T ek dCont) := ps_continue.of fun D σ H ⟨S, τ, DD, sr, h, o⟩ => o.ct S.P τ σ H sr h
/-- handed back: data that nobody changes -/
@[simp] def sto : Sl → Bool
  | .v g d => Nat.ble 2 g || d.imm
  | .own _ => true
  | _ => false
@[simp] def out : Sl → Sl
  | .v _ d => .v 2 d
  | s => s
theorem RepSl.out {K : PySem.W.Frag} {S : Sit} {τ : DSt} {σ : L2.St} {H H1 : Hp} {sl : Sl} {v : V} (sr : SR K T S τ σ H) (r : RepSl K T S H H1 sl v) (h : sto sl = true) : RepR K T S.B S.M S.H0 H1 (out sl) v := by
  have sub : ∀ a, (S.M a ∨ S.B = some a) → gset S 2 a := fun a z => z.elim .inr fun z => .inl (sr.bp a z)
  cases sl with
  | v g d =>
    have h1 : (Nat.ble 2 g || d.imm) = true := h
    rcases Bool.or_eq_true_iff.mp h1 with h2 | h2
    · match g, h2, r with
      | g + 2, _, r => exact Rep.anti sub d v r
    · exact Rep.imm d v h2 r
  | own ds =>
    obtain ⟨p, vs, e, h1, h2, h3⟩ := r
    exact ⟨p, vs, e, sr.new0 h1, h2, Reps.anti (fun a z => z.elim (fun z => .inl (sub a z)) .inr) ds vs h3⟩
  | un => exact r
  | ins c ds => exact r
@[simp] def dRet (te : DTE) : DTS := fun D τ => te τ fun sl => sto sl = true ∧ D.rt (out sl)
theorem ds_ret (he : PE X e (UpE X.K T te)) : PS X (.Return (some e) pos) (UpS X.K T ek (dRet te)) :=
  (ps_ret he).of fun D σ H ⟨S, τ, DD, sr, h, o⟩ => ⟨S, τ, _, sr, h, fun H1 v sl a r ⟨q1, q2⟩ => o.rt H1 v (out sl) (sr.aft a).kp a.bag (r.out sr q1) q2⟩
@[simp] def dRetN : DTS := fun D _ => D.rt (.v 2 .non)
theorem ds_retN : PS X (.Return none pos) (UpS X.K T ek dRetN) :=
  ps_retN.of fun D σ H ⟨S, τ, DD, sr, h, o⟩ => o.rt H .non (.v 2 .non) sr.kp sr.bag rfl h
/-- return of a list of one's own -/
@[simp] def dRetOwn (i : Nat) : DTS := fun D τ => match τ[i]? with
  | some (.own ds) => D.rt (.own ds)
  | _ => False
theorem ds_retOwn {i : Nat} {x : Str} {p : Pos} (hN : X.N[i]? = some x) (hv : Vis X.env.scope x) (hd : (x == ("__debug__" : Str)) = false := by decide) (hcd : (x == ("__classdict__" : Str)) = false := by decide) :
    PS X (.Return (some (.Name x p)) pos) (UpS X.K T ek (dRetOwn i)) :=
  (ps_ret (pe_var hN hv hd hcd)).of fun D σ H ⟨S, τ, DD, sr, h, o⟩ => by
    unfold dRetOwn at h
    cases e : τ[i]? with
    | none => rw [e] at h; exact h.elim
    | some sl =>
      rw [e] at h
      cases sl with
      | un => exact h.elim
      | v g d => exact h.elim
      | ins c ds => exact h.elim
      | own ds =>
        obtain ⟨p, vs, e1, e2, e3, e4, e5, r⟩ := sr.own i ds e
        exact ⟨.ref p, e1, o.rt H _ (.own ds) sr.kp sr.bag ⟨p, vs, rfl, sr.fr p e3 e4 e5, e2, Reps.anti (fun a z => z.elim (fun z => z.elim .inr fun z => .inl (sr.bp a z)) fun z => .inl (by rw [z]; exact e3)) ds vs r⟩ h⟩
/-- return of a value like a number, with all that stands then -/
@[simp] def dRetB (te : DTE) : DTS := fun D τ => te τ fun sl => match sl.d with
  | .int i => D.rb τ (.int i)
  | _ => False
theorem ds_retB (he : PE X e (UpE X.K T te)) : PS X (.Return (some e) pos) (UpS X.K T ek (dRetB te)) :=
  (ps_ret he).of fun D σ H ⟨S, τ, DD, sr, h, o⟩ => ⟨S, τ, _, sr, h, fun H1 v sl a r q => by
    have rg := r.g sr
    cases sd : sl.d with
    | int i =>
      rw [sd] at q rg
      obtain rfl : v = .int i := rg
      exact o.rb S.P _ _ _ (.int i) _ (sr.aft a) rfl q
    | _ => rw [sd] at q; exact (show False from q).elim⟩
@[simp] def dDrop (te : DTE) : DTS := fun D τ => te τ fun _ => D.nx τ
theorem ds_expr (he : PE X e (UpE X.K T te)) (hs : swapsWith e none pos.line X.env = pure false := by rfl) : PS X (.Expr e pos) (UpS X.K T ek (dDrop te)) :=
  (ps_expr he hs).of fun D σ H ⟨S, τ, DD, sr, h, o⟩ => ⟨S, τ, _, sr, h, fun H1 v sl a r q => o.nx S.P τ σ H1 (sr.aft a) q⟩
@[simp] def dIf (c : DTT) (t u : DTS) : DTS := fun D τ => c τ fun b => if b = true then t D τ else u D τ
theorem ds_if {c : Expr} {a b : List Stmt} {tc : DTT} (hc : PT X c (UpT X.K T tc)) (ha : PSs X a (UpS X.K T ek t)) (hb : PSs X b (UpS X.K T ek u)) : PS X (.If c a b pos) (UpS X.K T ek (dIf tc t u)) :=
  (ps_if hc ha hb).of fun D σ H ⟨S, τ, DD, sr, h, o⟩ => ⟨S, τ, _, sr, h, fun H1 b a q => by
    cases b with
    | true => exact ⟨S, τ, DD, sr.aft a, q, o⟩
    | false => exact ⟨S, τ, DD, sr.aft a, q, o⟩⟩
/-- a name's slot set -/
theorem SR.setV {K : PySem.W.Frag} {S : Sit} {τ : DSt} {σ : L2.St} {H : Hp} {i g : Nat} {d : D} {v : V} (sr : SR K T S τ σ H) (hg : 1 ≤ g) (r : RepG K T S g H d v) : SR K T S (τ.set i (.v g d)) (σ.set i (some v)) H where
  len := by rw [List.length_set, List.length_set]; exact sr.len
  bp := sr.bp
  al := sr.al
  ml := sr.ml
  kp := sr.kp
  xp := sr.xp
  fr := sr.fr
  bl := sr.bl
  bag := sr.bag
  lp := sr.lp
  val := fun j g' d' e => by
    by_cases hj : i = j
    · subst hj
      have hi : i < τ.length := by
        rw [← List.length_set]
        exact (List.getElem?_eq_some_iff.mp e).1
      rw [List.getElem?_set_self hi] at e
      cases e
      exact ⟨hg, v, List.getElem?_set_self (by rw [← sr.len]; exact hi), r⟩
    · rw [List.getElem?_set_ne hj] at e
      obtain ⟨h1, w, e1, h⟩ := sr.val j g' d' e
      exact ⟨h1, w, by rw [List.getElem?_set_ne hj]; exact e1, h⟩
  own := fun j ds e => by
    by_cases hj : i = j
    · subst hj
      have hi : i < τ.length := by
        rw [← List.length_set]
        exact (List.getElem?_eq_some_iff.mp e).1
      rw [List.getElem?_set_self hi] at e
      cases e
    · rw [List.getElem?_set_ne hj] at e
      obtain ⟨p, vs, e1, h⟩ := sr.own j ds e
      exact ⟨p, vs, by rw [List.getElem?_set_ne hj]; exact e1, h⟩
  ins := fun j c ds e => by
    by_cases hj : i = j
    · subst hj
      have hi : i < τ.length := by
        rw [← List.length_set]
        exact (List.getElem?_eq_some_iff.mp e).1
      rw [List.getElem?_set_self hi] at e
      cases e
    · rw [List.getElem?_set_ne hj] at e
      obtain ⟨z, p, dx, vs, e1, h⟩ := sr.ins j c ds e
      exact ⟨z, p, dx, vs, by rw [List.getElem?_set_ne hj]; exact e1, h⟩
  gh := sr.gh
  inj := fun a b ds es p e1 e2 e3 e4 => by
    have ne : ∀ (j : Nat) (ds : List D), (τ.set i (.v g d))[j]? = some (.own ds) → i ≠ j := fun j ds e q => by
      subst q
      have hi : i < τ.length := by
        rw [← List.length_set]
        exact (List.getElem?_eq_some_iff.mp e).1
      rw [List.getElem?_set_self hi] at e
      cases e
    have na := ne a ds e1
    have nb := ne b es e2
    rw [List.getElem?_set_ne na] at e1 e3
    rw [List.getElem?_set_ne nb] at e2 e4
    exact sr.inj a b ds es p e1 e2 e3 e4
/-- .. to a new list of one's own -/
theorem SR.setO {K : PySem.W.Frag} {S : Sit} {τ : DSt} {σ : L2.St} {H H1 : Hp} {i : Nat} {ds : List D} {p : Addr} {vs : List V} (sr : SR K T S τ σ H) (a : Aft K T S H H1) (hp : Nv H p) (h1 : H1 p = some (.lst vs)) (r : Reps K T S.B (fun a => gset S 2 a ∨ a = p) H1 ds vs) :
    SR K T { S with P := fun a => S.P a ∨ a = p } (τ.set i (.own ds)) (σ.set i (some (.ref p))) H1 := by
  have np : ¬ S.P p := sr.newP hp
  have nm : ¬ S.M p := sr.newM hp
  have nb : S.B ≠ some p := fun z => np (sr.bp p z)
  have s1 := sr.aft a
  have gg : ∀ (g : Nat) (d : D) (v : V), 1 ≤ g → RepG K T S g H d v → Rep K T S.B (gset { S with P := fun a => S.P a ∨ a = p } g) H1 d v := fun g d v hg q => by
    have q2 := Rep.kp a.kp (fun c z => .inl (sr.gsub g c z)) d v (Rep.new hp d v q)
    refine Rep.anti (fun c z => ?_) d v q2
    match g, hg, z with
    | 1, _, z => exact z
    | _ + 2, _, z => exact Or.elim z (fun z => Or.elim z (fun z => .inl (.inl z)) .inr) fun z => .inl (.inr z)
  have ggs : ∀ (ds : List D) (vs : List V), RepsG K T S 2 H ds vs → Reps K T S.B (gset { S with P := fun a => S.P a ∨ a = p } 2) H1 ds vs := fun ds vs q => by
    have q2 := Reps.kp a.kp (fun c z => .inl (sr.gsub 2 c z)) ds vs (Reps.new hp ds vs q)
    exact Reps.anti (fun c z => Or.elim z (fun z => Or.elim z (fun z => .inl (.inl z)) .inr) fun z => .inl (.inr z)) ds vs q2
  have at_ : ∀ {s : Sl}, (τ.set i (.own ds))[i]? = some s → i < τ.length ∧ s = .own ds := fun {s} e => by
    have hi : i < τ.length := by
      rw [← List.length_set]
      exact (List.getElem?_eq_some_iff.mp e).1
    rw [List.getElem?_set_self hi] at e
    exact ⟨hi, (Option.some.inj e).symm⟩
  have old : ∀ (j : Nat) (es : List D) (q : Addr), i ≠ j → (τ.set i (.own ds))[j]? = some (.own es) → (σ.set i (some (.ref p)))[j]? = some (some (.ref q)) → q ≠ p := fun j es q hj e e3 z => by
    rw [List.getElem?_set_ne hj] at e e3
    obtain ⟨q', ws, e1, e2, _⟩ := sr.own j es e
    rw [e1] at e3
    cases e3
    exact hp (Lv.of (z ▸ e2))
  have nx : S.X ≠ some p := fun z => np (sr.xp p z).1
  refine ⟨by rw [List.length_set, List.length_set]; exact sr.len, fun c z => .inl (sr.bp c z), fun c z => ?_, sr.ml, s1.kp, fun c z => ⟨.inl (sr.xp c z).1, (sr.xp c z).2⟩, fun c z q q' => ?_, sr.bl, a.bag, fun b e z => ?_, fun j g d e => ?_, fun j es e => ?_, fun j c es e => ?_, fun x hx => ⟨(sr.gh x hx).1, gg _ _ _ (sr.gh x hx).1 (sr.gh x hx).2⟩, fun j k ds' es' q e1 e2 e3 e4 => ?_⟩
  · rcases z with z | z
    · exact s1.al c z
    · rw [z]; exact Lv.of h1
  · rcases z with z | z
    · exact sr.fr c z q q'
    · rw [z]; exact sr.new0 hp
  · rcases z with z | z
    · exact sr.lp b e z
    · obtain ⟨_, ns, _, _, _, _, _, h2, _⟩ := sr.bag.bg b e
      exact hp (Lv.of (z ▸ h2))
  · by_cases hj : i = j
    · subst hj
      have := (at_ e).2
      cases this
    · rw [List.getElem?_set_ne hj] at e
      obtain ⟨hg, v, e1, h⟩ := sr.val j g d e
      exact ⟨hg, v, by rw [List.getElem?_set_ne hj]; exact e1, gg g d v hg h⟩
  · by_cases hj : i = j
    · subst hj
      obtain ⟨hi, e⟩ := at_ e
      cases e
      refine ⟨p, vs, List.getElem?_set_self (by rw [← sr.len]; exact hi), h1, .inr rfl, nb, nx, Reps.anti (fun c z => ?_) ds vs r⟩
      exact Or.elim z (fun z => Or.elim z (fun z => .inl (.inl z)) .inr) fun z => .inl (.inr z)
    · rw [List.getElem?_set_ne hj] at e
      obtain ⟨q, ws, e1, e2, e3, e4, e5, h⟩ := sr.own j es e
      exact ⟨q, ws, by rw [List.getElem?_set_ne hj]; exact e1, a.kp.k q _ e2 e4, .inl e3, e4, e5, ggs es ws h⟩
  · by_cases hj : i = j
    · subst hj
      have := (at_ e).2
      cases this
    · rw [List.getElem?_set_ne hj] at e
      obtain ⟨z, q, dx, ws, e1, e2, e3, h⟩ := sr.ins j c es e
      exact ⟨z, q, dx, ws, by rw [List.getElem?_set_ne hj]; exact e1, a.kp.k q _ e2 (sr.xp q e3).2 insO_noT, e3, ggs es ws h⟩
  · by_cases hj : i = j
    · by_cases hk : i = k
      · rw [← hj, ← hk]
      · subst hj
        have hi := (at_ e1).1
        rw [List.getElem?_set_self (by rw [← sr.len]; exact hi)] at e3
        cases e3
        exact absurd rfl (old k es' p hk e2 e4)
    · by_cases hk : i = k
      · subst hk
        have hi := (at_ e2).1
        rw [List.getElem?_set_self (by rw [← sr.len]; exact hi)] at e4
        cases e4
        exact absurd rfl (old j ds' p hj e1 e3)
      · rw [List.getElem?_set_ne hj] at e1 e3
        rw [List.getElem?_set_ne hk] at e2 e4
        exact sr.inj j k ds' es' q e1 e2 e3 e4
end
end DL
/-! DL3: displays, places, slices, sums of lists, lengths, calls; stores, loops. -/
namespace DL
open PySem PySem.Spec PyProof.Rows L2
theorem lim_le {n : Nat} (h : Nat.ble n 1000000 = true) : n ≤ sizeLine := Nat.le_trans (Nat.le_of_ble_eq_true h) (by rw [sizeLine_eq]; decide)
theorem lim_le' {n : Nat} (h : n ≤ 1000000) : n ≤ sizeLine := Nat.le_trans h (by rw [sizeLine_eq]; decide)
/-- a new list -/
@[simp] def mkL (g : Nat) (ds : List D) : Sl := match g with
  | 0 => .v 0 (.lst ds)
  | 1 => .v 1 (.lst ds)
  | _ + 2 => .own ds
theorem RepSl.mkL {K : PySem.W.Frag} {T : Tab} {S : Sit} {τ : DSt} {σ : L2.St} {H H' : Hp} {p : Addr} {g : Nat} {ds : List D} {vs : List V} (sr : SR K T S τ σ H) (hp : H p = none) (e : H' p = some (.lst vs)) (k : Kp (fun _ => False) H H') (r : RepsG K T S g H ds vs) : RepSl K T S H H' (DL.mkL g ds) (.ref p) := by
  have r1 : Reps K T S.B (fun a => gset S g a ∨ a = p) H' ds vs := Reps.kp k (fun _ z => z.elim) ds vs (Reps.new (nl hp) ds vs r)
  match g, r1, sr.newG (nl hp) g with
  | 0, r1, n => exact ⟨p, vs, rfl, e, n, Reps.anti (fun _ z => .inl z) ds vs r1⟩
  | 1, r1, n => exact ⟨p, vs, rfl, e, n, Reps.anti (fun _ z => .inl z) ds vs r1⟩
  | g + 2, r1, n => exact ⟨p, vs, rfl, nl hp, e, r1⟩
theorem SR.laid' {K : PySem.W.Frag} {T : Tab} {S : Sit} {τ : DSt} {σ : L2.St} {H : Hp} (sr : SR K T S τ σ H) {p : Addr} {o : HO} (hp : H p = none) : Aft K T S H (upd H p o) := sr.laid hp

/-! ### arguments, displays -/
@[simp] def aNil : DTA := fun _ Q => Q 2 []
@[simp] def aCons (te : DTE) (tr : DTA) : DTA := fun τ Q => te τ fun s => tr τ fun g ds => Q (min (up s.g s.d) g) (s.d :: ds)
@[simp] def dTup (ta : DTA) : DTE := fun τ Q => ta τ fun g ds => match Nat.ble ds.length 1000000 with
  | true => Q (.v g (.tup ds))
  | false => False
@[simp] def dLst (ta : DTA) : DTE := fun τ Q => ta τ fun g ds => match Nat.ble ds.length 1000000 with
  | true => Q (mkL g ds)
  | false => False
section
variable {X : Cx} {T : Tab} {e : Expr} {es : List Expr} {te : DTE} {t : DTA} {pos : Pos}
theorem da_nil : PA X [] (UpA X.K T aNil) := pa_nil.of fun σ H Q ⟨S, τ, QD, sr, h, k⟩ => k H [] 2 [] sr.same rfl h
theorem da_cons (ha : PE X e (UpE X.K T te)) (hr : PA X es (UpA X.K T t)) (hs : starEach (e :: es) X.env = (false, eval e X.env) :: starEach es X.env := by rfl) : PA X (e :: es) (UpA X.K T (aCons te t)) :=
  (pa_cons ha hr hs).of fun σ H Q ⟨S, τ, QD, sr, h, k⟩ => ⟨S, τ, _, sr, h, fun H1 v x a1 r1 q1 => ⟨S, τ, _, sr.aft a1, q1, fun H2 vs g ds a2 r2 q2 => by
    have s1 := sr.aft a1
    have s2 := s1.aft a2
    refine k H2 (v :: vs) _ (x.d :: ds) (a1.trans a2) ⟨v, vs, rfl, ?_, ?_⟩ q2
    · exact RepG.le s2 (Nat.min_le_left _ _) (s1.rep a2.kp (RepG.up (r1.g sr)))
    · exact RepsG.le s2 (Nat.min_le_right _ _) r2⟩⟩
theorem de_tup {k1} (h : PA X es (UpA X.K T t)) : PE X (.Tuple es k1 pos) (UpE X.K T (dTup t)) :=
  (pe_tup h).of fun σ H Q ⟨S, τ, QD, sr, h, k⟩ => ⟨S, τ, _, sr, h, fun H1 vs g ds a r q => by
    have s1 := sr.aft a
    split at q
    · rename_i hb
      refine ⟨by rw [r.len]; exact lim_le hb, fun p hp => ?_⟩
      have a2 : Aft X.K T S H1 (upd H1 p (.tup vs)) := s1.laid hp
      exact k _ _ (.v g (.tup ds)) (a.trans a2) ⟨p, vs, rfl, SqT.of upd_same, s1.reps a2.kp r⟩ q
    · exact q.elim⟩
theorem de_lst (h : PA X es (UpA X.K T t)) : PE X (.List es pos) (UpE X.K T (dLst t)) :=
  (pe_lst h).of fun σ H Q ⟨S, τ, QD, sr, h, k⟩ => ⟨S, τ, _, sr, h, fun H1 vs g ds a r q => by
    have s1 := sr.aft a
    split at q
    · rename_i hb
      refine ⟨by rw [r.len]; exact lim_le hb, fun p hp => ?_⟩
      have a2 : Aft X.K T S H1 (upd H1 p (.lst vs)) := s1.laid hp
      exact k _ _ (mkL g ds) (a.trans a2) ((RepSl.mkL s1 hp upd_same (Kp.laid hp) r).back a) q
    · exact q.elim⟩
end

/-! ### places -/
def elems : D → Option (List D)
  | .lst ds => some ds
  | .tup ds => some ds
  | _ => none
@[simp] theorem elems_l (ds : List D) : elems (.lst ds) = some ds := rfl
@[simp] theorem elems_t (ds : List D) : elems (.tup ds) = some ds := rfl
@[simp] def fIx : DF2 := fun g d _ i Q => match elems d, i with
  | some ds, .int i => match atI ds i with
    | some x => Q (.v (up g x) x)
    | none => False
  | _, _ => False
@[simp] def dIxK (k : Nat) (te : DTE) : DTE := fun τ Q => te τ fun s => match elems s.d with
  | some ds => match ds[k]? with
    | some x => Q (.v (up s.g x) x)
    | none => False
  | none => False
@[simp] def dIxL (te : DTE) : DTE := fun τ Q => te τ fun s => match elems s.d with
  | some ds => match ds.getLast? with
    | some x => Q (.v (up s.g x) x)
    | none => False
  | none => False
theorem Reps.atI {K : PySem.W.Frag} {T : Tab} {B : Option Addr} {M : Addr → Prop} {H : Hp} {ds : List D} {vs : List V} {i : Int} {d : D} (r : Reps K T B M H ds vs) (h : L2.atI ds i = some d) : ∃ v, L2.atI vs i = some v ∧ Rep K T B M H d v := by
  unfold L2.atI at h ⊢
  rw [r.len]
  cases e : ixN ds.length i with
  | none => rw [e] at h; cases h
  | some j =>
    rw [e] at h
    exact r.get h
theorem r2_ix {K : PySem.W.Frag} {T : Tab} : R2D K T (fun x y H Q => rIxL K x y H Q ∨ rIxT K x y H Q) fIx := by
  intro S τ σ H g d g' d' v u QD Q sr r1 r2 q k
  unfold fIx at q
  cases d with
  | lst ds =>
    obtain ⟨a, vs, rfl, e, m, r⟩ := r1
    cases d' with
    | int i =>
      have q : (match L2.atI ds i with | some x => QD (.v (up g x) x) | none => False) := q
      cases ei : L2.atI ds i with
      | none => rw [ei] at q; exact q.elim
      | some x =>
        rw [ei] at q
        obtain ⟨w, e1, e2⟩ := Reps.atI r ei
        exact .inl ⟨a, vs, i, w, rfl, r2, SqL.of e, e1, k H w (.v (up g x) x) sr.same (RepG.up e2) q⟩
    | _ => exact q.elim
  | tup ds =>
    obtain ⟨a, vs, rfl, e, r⟩ := r1
    cases d' with
    | int i =>
      have q : (match L2.atI ds i with | some x => QD (.v (up g x) x) | none => False) := q
      cases ei : L2.atI ds i with
      | none => rw [ei] at q; exact q.elim
      | some x =>
        rw [ei] at q
        obtain ⟨w, e1, e2⟩ := Reps.atI r ei
        exact .inr ⟨a, vs, i, w, rfl, r2, e, e1, k H w (.v (up g x) x) sr.same (RepG.up e2) q⟩
    | _ => exact q.elim
  | _ => cases d' <;> exact q.elim
theorem atI_k {α : Type} (ds : List α) (k : Nat) : L2.atI ds (k : Int) = ds[k]? := by
  cases e : ds[k]? with
  | some x => exact atI_nat e
  | none =>
    unfold L2.atI ixN
    have h : ds.length ≤ k := List.getElem?_eq_none_iff.mp e
    rw [if_pos (by omega), if_neg (by omega)]
    rfl
theorem atI_l {α : Type} (ds : List α) : L2.atI ds (-1) = ds.getLast? := by
  unfold L2.atI ixN
  rw [if_neg (by decide)]
  cases ds with
  | nil => rfl
  | cons d r =>
    rw [if_pos (by rw [List.length_cons]; omega)]
    show (d :: r)[(-1 + (((d :: r).length : Nat) : Int)).toNat]? = _
    rw [List.getLast?_eq_getElem?]
    congr 1
    rw [List.length_cons]; omega
section
variable {X : Cx} {T : Tab} {a b : Expr} {ta tb : DTE} {pos : Pos}
theorem de_ixE (ha : PE X a (UpE X.K T ta)) (hb : PE X b (UpE X.K T tb)) (hs : PlainIx b) : PE X (.Subscript a b pos) (UpE X.K T (dOp fIx ta tb)) := de_ix (ix_list.or ix_tup) r2_ix ha hb hs
theorem UpE.imp {K : PySem.W.Frag} {t t' : DTE} (h : ∀ τ Q, t' τ Q → t τ Q) : ∀ σ H Q, UpE K T t' σ H Q → UpE K T t σ H Q := fun σ H Q ⟨S, τ, QD, sr, q, k⟩ => ⟨S, τ, QD, sr, h τ QD q, k⟩
theorem de_ixK {i : Int} {k : Nat} {k1 : Nat} {p1 : Pos} (hi : i = (k : Int)) (ha : PE X a (UpE X.K T ta)) (hs : PlainIx (.Constant (.int i) k1 p1) := by exact fun _ _ => rfl) : PE X (.Subscript a (.Constant (.int i) k1 p1) pos) (UpE X.K T (dIxK k ta)) :=
  (de_ixE ha de_int hs).of (UpE.imp fun τ Q h => by
    subst hi
    unfold dIxK at h
    have e : (fun s : Sl => (match elems s.d with | some ds => (match ds[k]? with | some x => Q (.v (up s.g x) x) | none => False) | none => False)) = fun s : Sl => fIx s.g s.d 2 (.int (k : Int)) Q := by
      funext s
      unfold fIx
      cases elems s.d with
      | none => rfl
      | some ds =>
        show _ = (match L2.atI ds (k : Int) with | some x => Q (.v (up s.g x) x) | none => False)
        rw [atI_k] <;> rfl
    rw [e] at h
    exact h)
theorem de_neg (ha : PE X a (UpE X.K T ta)) : PE X (.UnaryOp .USub a pos) (UpE X.K T (fun τ Q => ta τ fun s => match s.d with | .int i => Q (.v 2 (.int (-i))) | _ => False)) :=
  (pe_un un_neg ha).of fun σ H Q ⟨S, τ, QD, sr, h, k⟩ => ⟨S, τ, _, sr, h, fun H1 v x a1 r1 q1 => by
    have r := r1.g sr
    split at q1
    · rename_i i e
      rw [e] at r
      exact ⟨i, r, k H1 _ (.v 2 (.int (-i))) a1 rfl q1⟩
    · exact q1.elim⟩
theorem de_ixL {k1 : Nat} {p1 p2 : Pos} (ha : PE X a (UpE X.K T ta)) (hs : PlainIx (.UnaryOp .USub (.Constant (.int 1) k1 p1) p2) := by exact fun _ _ => rfl) : PE X (.Subscript a (.UnaryOp .USub (.Constant (.int 1) k1 p1) p2) pos) (UpE X.K T (dIxL ta)) :=
  (de_ixE ha (de_neg de_int) hs).of (UpE.imp fun τ Q h => by
    unfold dIxL at h
    have e : (fun s : Sl => (match elems s.d with | some ds => (match ds.getLast? with | some x => Q (.v (up s.g x) x) | none => False) | none => False)) = fun s : Sl => fIx s.g s.d 2 (.int (-1)) Q := by
      funext s
      unfold fIx
      cases elems s.d with
      | none => rfl
      | some ds =>
        show _ = (match L2.atI ds (-1) with | some x => Q (.v (up s.g x) x) | none => False)
        rw [atI_l] <;> rfl
    rw [e] at h
    exact h)
end

/-! ### slices -/
def cutG {α : Type} (xs : List α) (lo hi : Option Int) : List α := (xs.drop (HT.sIx xs.length 0 lo)).take (HT.sIx xs.length xs.length hi - HT.sIx xs.length 0 lo)
abbrev DTO := DSt → (Option Int → Prop) → Prop
@[simp] def oNone : DTO := fun _ Q => Q none
@[simp] def oSome (te : DTE) : DTO := fun τ Q => te τ fun s => match s.d with
  | .int i => Q (some i)
  | _ => False
@[simp] def dSl (te : DTE) (tl th : DTO) : DTE := fun τ Q => te τ fun s => tl τ fun l => th τ fun h => match s.d with
  | .lst ds => Q (mkL (upl s.g (cutG ds l h)) (cutG ds l h))
  | .tup ds => Q (.v (upl s.g (cutG ds l h)) (.tup (cutG ds l h)))
  | .scr ns => Q (mkL 2 (cutG (ns.map D.int) l h))
  | .str z => z.length ≤ 10000000 ∧ Q (.v 2 (.str (Txt.slice z l h)))
  | _ => False
def UpO (K : PySem.W.Frag) (T : Tab) (t : DTO) : TO := fun σ H Q => ∃ (S : Sit) (τ : DSt) (QD : Option Int → Prop), SR K T S τ σ H ∧ t τ QD ∧ ∀ H' o, Aft K T S H H' → QD o → Q o H'
theorem reps_ints {K : PySem.W.Frag} {T : Tab} {B : Option Addr} {M : Addr → Prop} {H : Hp} : ∀ {ns : List Int}, Reps K T B M H (ns.map D.int) (ns.map V.int)
  | [] => rfl
  | n :: ns => ⟨.int n, ns.map V.int, rfl, rfl, reps_ints⟩
theorem Reps.cut {K : PySem.W.Frag} {T : Tab} {B : Option Addr} {M : Addr → Prop} {H : Hp} {ds : List D} {vs : List V} (r : Reps K T B M H ds vs) (l h : Option Int) : Reps K T B M H (cutG ds l h) (cutV vs l h) := by
  unfold cutG cutV
  rw [r.len]
  exact (r.drop _).take _
section
variable {X : Cx} {T : Tab} {e : Expr} {te : DTE} {lo hi : Option Expr} {tl th : DTO} {pos p2 : Pos}
theorem do_none : PO X none (UpO X.K T oNone) := ⟨fun pins s σ H Q I ⟨S, τ, QD, sr, h, k⟩ => po_none.run pins s σ H Q I (k H none sr.same h)⟩
theorem do_some (he : PE X e (UpE X.K T te)) : PO X (some e) (UpO X.K T (oSome te)) := ⟨fun pins s σ H Q I ⟨S, τ, QD, sr, h, k⟩ => (po_some he).run pins s σ H Q I ⟨S, τ, _, sr, h, fun H1 v x a r q => by
  have r := r.g sr
  split at q
  · rename_i i ei
    rw [ei] at r
    exact ⟨i, r, k H1 (some i) a q⟩
  · exact q.elim⟩⟩
theorem de_sl (he : PE X e (UpE X.K T te)) (hl : PO X lo (UpO X.K T tl)) (hh : PO X hi (UpO X.K T th)) : PE X (.Subscript e (.Slice lo hi none p2) pos) (UpE X.K T (dSl te tl th)) :=
  (pe_slice ((sl_list.or sl_tupA).or C8.sl_txt) he hl hh).of fun σ H Q ⟨S, τ, QD, sr, h, k⟩ => ⟨S, τ, _, sr, h, fun H1 v x a1 r1 q1 => ⟨S, τ, _, sr.aft a1, q1, fun H2 l a2 q2 => ⟨S, τ, _, (sr.aft a1).aft a2, q2, fun H3 u a3 q3 => by
    have s1 := sr.aft a1
    have s2 := s1.aft a2
    have s3 := s2.aft a3
    have a12 := a2.trans a3
    have r : RepG X.K T S x.g H3 x.d v := s1.rep a12.kp (r1.g sr)
    cases ed : x.d with
    | lst ds =>
      rw [ed] at r q3
      obtain ⟨a, vs, rfl, e1, e2, r⟩ := r
      refine .inl (.inl ⟨a, vs, rfl, SqL.of e1, fun p hp => ?_⟩)
      have a4 : Aft X.K T S H3 (upd H3 p (.lst (cutV vs l u))) := s3.laid hp
      exact k _ _ _ (a1.trans (a12.trans a4)) ((RepSl.mkL s3 hp upd_same (Kp.laid hp) (RepsG.upl (Reps.cut r l u))).back (a1.trans a12)) q3
    | tup ds =>
      rw [ed] at r q3
      obtain ⟨a, vs, rfl, e1, r⟩ := r
      have rc := RepsG.upl (g := x.g) (S := S) (Reps.cut r l u)
      refine .inl (.inr ⟨a, vs, rfl, e1, fun hw => ?_, fun _ p hp => ?_⟩)
      · have ew : cutV vs l u = vs := by
          unfold cutV
          rw [hw.1, hw.2, List.drop_zero, Nat.sub_zero]
          exact List.take_of_length_le (Nat.le_refl _)
        rw [ew] at rc
        exact k _ _ (.v _ (.tup (cutG ds l u))) (a1.trans a12) ⟨a, vs, rfl, e1, rc⟩ q3
      · have a4 : Aft X.K T S H3 (upd H3 p (.tup (cutV vs l u))) := s3.laid hp
        exact k _ _ (.v _ (.tup (cutG ds l u))) (a1.trans (a12.trans a4)) ⟨p, _, rfl, SqT.of upd_same, s3.reps a4.kp rc⟩ q3
    | scr ns =>
      rw [ed] at r q3
      obtain ⟨a, rfl, r⟩ := r
      have rs : RepsG X.K T S 2 H3 (ns.map D.int) (ns.map V.int) := reps_ints
      refine .inl (.inl ⟨a, ns.map V.int, rfl, ?_, fun p hp => ?_⟩)
      · rcases r with ⟨r, _⟩ | r
        · exact .inl r
        · exact .inr r
      · exact k _ _ _ (a1.trans (a12.trans (s3.laid hp))) ((RepSl.mkL (g := 2) s3 hp upd_same (Kp.laid hp) (Reps.cut rs l u)).back (a1.trans a12)) q3
    | str z =>
      rw [ed] at r q3
      have r : v = .str z := r
      exact .inr ⟨z, r, Nat.le_trans q3.1 (by rw [sizeLine_eq]; decide), k _ _ (.v 2 (.str (Txt.slice z l u))) (a1.trans a12) rfl q3.2⟩
    | _ => rw [ed] at q3; exact q3.elim⟩⟩⟩
end

/-! ### sums of lists and tuples, lengths -/
/-- + of ints, lists, tuples, texts -/
@[simp] def fAdd : DF2 := fun g d g' d' Q => match d, d' with
  | .int i, .int j => Q (.v 2 (.int (i + j)))
  | .lst xs, .lst ys => xs.length + ys.length ≤ 1000000 ∧ Q (mkL (min (upl g xs) (upl g' ys)) (xs ++ ys))
  | .tup xs, .tup ys => xs.length + ys.length ≤ 1000000 ∧ Q (.v (min (upl g xs) (upl g' ys)) (.tup (xs ++ ys)))
  | .str x, .str y => x.length + y.length ≤ 1000000 ∧ Q (.v 2 (.str (x ++ y)))
  | _, _ => False
/-- * of ints, of a list and an int -/
@[simp] def fMul : DF2 := fun g d _ d' Q => match d, d' with
  | .int i, .int j => CMul i j ∧ Q (.v 2 (.int (i * j)))
  | .lst xs, .int k => k < 1000000 ∧ xs.length * k.toNat ≤ 1000000 ∧ -1000000 < k ∧ Q (mkL (upl g xs) (List.replicate k.toNat xs).flatten)
  | _, _ => False
section
variable {X : Cx} {T : Tab}
theorem op_addA : OpR X (binaryOp .Add) (fun x y H Q => (rI0 fun i j => .int (i + j)) x y H Q ∨ (rCat x y H Q ∨ (rCatA X.K x y H Q ∨ ∃ i j, x = .str i ∧ y = .str j ∧ i.length + j.length ≤ sizeLine ∧ Q (.str (i ++ j)) H))) := op_add.or (op_cat.or (op_catA.or op_add_str))
theorem r2_add {K : PySem.W.Frag} : R2D K T (fun x y H Q => (rI0 fun i j => .int (i + j)) x y H Q ∨ (rCat x y H Q ∨ (rCatA K x y H Q ∨ ∃ i j, x = .str i ∧ y = .str j ∧ i.length + j.length ≤ sizeLine ∧ Q (.str (i ++ j)) H))) fAdd := by
  intro S τ σ H g d g' d' v u QD Q sr r1 r2 q k
  unfold fAdd at q
  split at q
  · rename_i i j
    exact .inl ⟨i, j, r1, r2, k H _ (.v 2 (.int (i + j))) sr.same rfl q⟩
  · rename_i xs ys
    obtain ⟨a, vs, rfl, e1, m1, r1⟩ := r1
    obtain ⟨b, us, rfl, e2, m2, r2⟩ := r2
    obtain ⟨hz, q⟩ := q
    refine .inr (.inl ⟨a, b, vs, us, rfl, rfl, e1, e2, by rw [r1.len, r2.len]; exact lim_le' hz, fun p hp => ?_⟩)
    have r3 : RepsG K T S (min (upl g xs) (upl g' ys)) H (xs ++ ys) (vs ++ us) :=
      Reps.append (RepsG.le sr (Nat.min_le_left _ _) (RepsG.upl r1)) (RepsG.le sr (Nat.min_le_right _ _) (RepsG.upl r2))
    exact k _ _ _ (sr.laid hp) (RepSl.mkL sr hp upd_same (Kp.laid hp) r3) q
  · rename_i xs ys
    obtain ⟨a, vs, rfl, e1, r1⟩ := r1
    obtain ⟨b, us, rfl, e2, r2⟩ := r2
    obtain ⟨hz, q⟩ := q
    have r3 : RepsG K T S (min (upl g xs) (upl g' ys)) H (xs ++ ys) (vs ++ us) :=
      Reps.append (RepsG.le sr (Nat.min_le_left _ _) (RepsG.upl r1)) (RepsG.le sr (Nat.min_le_right _ _) (RepsG.upl r2))
    refine .inr (.inr (.inl ⟨a, b, vs, us, rfl, rfl, e1, e2, by rw [r1.len, r2.len]; exact lim_le' hz, fun hx => ?_, fun _ hy => ?_, fun _ _ p hp => ?_⟩))
    · subst hx
      exact k _ _ (.v _ (.tup (xs ++ ys))) sr.same ⟨b, _, rfl, e2, r3⟩ q
    · subst hy
      rw [List.append_nil] at r3
      exact k _ _ (.v _ (.tup (xs ++ ys))) sr.same ⟨a, _, rfl, e1, r3⟩ q
    · have a2 := sr.laid (o := .tup (vs ++ us)) hp
      exact k _ _ (.v _ (.tup (xs ++ ys))) a2 ⟨p, _, rfl, SqT.of upd_same, sr.reps a2.kp r3⟩ q
  · rename_i x y
    obtain ⟨hz, q⟩ := q
    exact .inr (.inr (.inr ⟨x, y, r1, r2, lim_le' hz, k H _ (.v 2 (.str (x ++ y))) sr.same rfl q⟩))
  · exact q.elim
theorem op_mulA : OpR X (binaryOp .Mult) (fun x y H Q => (rI CMul fun i j => .int (i * j)) x y H Q ∨ rRep x y H Q) := op_mul.or op_rep
theorem r2_mul {K : PySem.W.Frag} : R2D K T (fun x y H Q => (rI CMul fun i j => .int (i * j)) x y H Q ∨ rRep x y H Q) fMul := by
  intro S τ σ H g d g' d' v u QD Q sr r1 r2 q k
  unfold fMul at q
  split at q
  · rename_i i j
    exact .inl ⟨i, j, r1, r2, q.1, k H _ (.v 2 (.int (i * j))) sr.same rfl q.2⟩
  · rename_i xs n
    obtain ⟨a, vs, rfl, e1, m1, r1⟩ := r1
    obtain ⟨h1, hz, h2, q⟩ := q
    refine .inr ⟨a, n, vs, rfl, r2, e1, by omega, by omega, by rw [r1.len]; exact lim_le' hz, fun p hp => ?_⟩
    exact k _ _ _ (sr.laid hp) (RepSl.mkL sr hp upd_same (Kp.laid hp) (Reps.rep (RepsG.upl r1) _)) q
  · exact q.elim
variable {a b : Expr} {ta tb : DTE} {pos : Pos}
theorem de_add (ha : PE X a (UpE X.K T ta)) (hb : PE X b (UpE X.K T tb)) : PE X (.BinOp a .Add b pos) (UpE X.K T (dOp fAdd ta tb)) := de_op op_addA r2_add ha hb
theorem de_sub (ha : PE X a (UpE X.K T ta)) (hb : PE X b (UpE X.K T tb)) : PE X (.BinOp a .Sub b pos) (UpE X.K T (dOp (fI0 fun i j => .int (i - j)) ta tb)) := de_op op_sub (r2_I0 fun _ _ => rfl) ha hb
theorem de_mul (ha : PE X a (UpE X.K T ta)) (hb : PE X b (UpE X.K T tb)) : PE X (.BinOp a .Mult b pos) (UpE X.K T (dOp fMul ta tb)) := de_op op_mulA r2_mul ha hb
theorem de_mod (ha : PE X a (UpE X.K T ta)) (hb : PE X b (UpE X.K T tb)) : PE X (.BinOp a .Mod b pos) (UpE X.K T (dOp (fI (fun _ j => 0 < j) fun i j => .int (i % j)) ta tb)) := de_op op_mod (r2_I fun _ _ => rfl) ha hb
theorem de_fdiv (ha : PE X a (UpE X.K T ta)) (hb : PE X b (UpE X.K T tb)) : PE X (.BinOp a .FloorDiv b pos) (UpE X.K T (dOp (fI CDiv fun i j => .int (i / j)) ta tb)) := de_op op_fdiv (r2_I fun _ _ => rfl) ha hb
theorem de_pow (ha : PE X a (UpE X.K T ta)) (hb : PE X b (UpE X.K T tb)) : PE X (.BinOp a .Pow b pos) (UpE X.K T (dOp (fI CPow fun i j => .int (i ^ j.toNat)) ta tb)) := de_op op_pow (r2_I fun _ _ => rfl) ha hb
abbrev fLt : DF2 := fI0 fun i j => .bl (decide (i < j))
abbrev fLe : DF2 := fI0 fun i j => .bl (decide (i ≤ j))
abbrev fGt : DF2 := fI0 fun i j => .bl (decide (j < i))
abbrev fGe : DF2 := fI0 fun i j => .bl (decide (j ≤ i))
theorem de_lt (ha : PE X a (UpE X.K T ta)) (hb : PE X b (UpE X.K T tb)) : PE X (.Compare a [.Lt] [b] pos) (UpE X.K T (dOp fLt ta tb)) := de_cmp op_lt (r2_I0 fun _ _ => rfl) ha hb (nomark _)
theorem de_le (ha : PE X a (UpE X.K T ta)) (hb : PE X b (UpE X.K T tb)) : PE X (.Compare a [.LtE] [b] pos) (UpE X.K T (dOp fLe ta tb)) := de_cmp op_le (r2_I0 fun _ _ => rfl) ha hb (nomark _)
theorem de_gt (ha : PE X a (UpE X.K T ta)) (hb : PE X b (UpE X.K T tb)) : PE X (.Compare a [.Gt] [b] pos) (UpE X.K T (dOp fGt ta tb)) := de_cmp op_gt (r2_I0 fun _ _ => rfl) ha hb (nomark _)
theorem de_ge (ha : PE X a (UpE X.K T ta)) (hb : PE X b (UpE X.K T tb)) : PE X (.Compare a [.GtE] [b] pos) (UpE X.K T (dOp fGe ta tb)) := de_cmp op_ge (r2_I0 fun _ _ => rfl) ha hb (nomark _)
/-- a < b < c and the like, of ints -/
@[simp] def dChain (p q : Int → Int → Bool) (ta tb tc : DTE) : DTE := fun τ Q => ta τ fun x => tb τ fun y => match x.d, y.d with
  | .int i, .int j => if p i j = true then tc τ fun z => (match z.d with | .int k => Q (.v 2 (.bl (q j k))) | _ => False) else Q (.v 2 (.bl false))
  | _, _ => False
theorem de_chain {c : Expr} {tc : DTE} {op op' : CmpOp} {p q : Int → Int → Bool} (ho : OpR X (compareOp op) (rI0 fun i j => .bl (p i j))) (ho' : OpR X (compareOp op') (rI0 fun i j => .bl (q i j))) (ha : PE X a (UpE X.K T ta)) (hb : PE X b (UpE X.K T tb)) (hc : PE X c (UpE X.K T tc))
    (hm : PE X (.Compare a [op, op'] [b, c] pos) (tChain (rI0 fun i j => .bl (p i j)) (rI0 fun i j => .bl (q i j)) (UpE X.K T ta) (UpE X.K T tb) (UpE X.K T tc))) : PE X (.Compare a [op, op'] [b, c] pos) (UpE X.K T (dChain p q ta tb tc)) :=
  hm.of fun σ H Q ⟨S, τ, QD, sr, h, k⟩ => ⟨S, τ, _, sr, h, fun H1 v x a1 r1 q1 => ⟨S, τ, _, sr.aft a1, q1, fun H2 u y a2 r2 q2 => by
    have s1 := sr.aft a1
    have s2 := s1.aft a2
    have r1' := s1.rep a2.kp (r1.g sr)
    have r2' := r2.g s1
    split at q2
    · rename_i i j e1 e2
      rw [e1] at r1'
      rw [e2] at r2'
      refine ⟨i, j, r1', r2', p i j, rfl, ?_⟩
      cases hp : p i j with
      | false =>
        rw [hp] at q2
        exact k H2 _ (.v 2 (.bl false)) (a1.trans a2) rfl q2
      | true =>
        rw [hp] at q2
        refine ⟨S, τ, _, s2, q2, fun H3 w z a3 r3 q3 => ?_⟩
        have r3' := r3.g s2
        split at q3
        · rename_i n e3
          rw [e3] at r3'
          exact ⟨j, n, (by rw [r2']), r3', k H3 _ (.v 2 (.bl (q j n))) (a1.trans (a2.trans a3)) rfl q3⟩
        · exact q3.elim
    · exact q2.elim⟩⟩
end
end DL
/-! DL4: equality, in, tests, built-in calls. -/
namespace DL
open PySem PySem.Spec PyProof.Rows L2
mutual
@[simp] def D.py : D → PyData
  | .non => .none
  | .bl b => .bool b
  | .int i => .int i
  | .str x => .str x
  | .tup ds => .tuple (pys ds)
  | .lst ds => .list (pys ds)
  | .obj _ _ => .none
  | .bag => .none
  | .cls _ => .none
  | .lat _ _ => .none
  | .scr _ => .none
  | .exn _ _ _ _ => .none
@[simp] def pys : List D → List PyData
  | [] => []
  | d :: ds => d.py :: pys ds
end
mutual
@[simp] def D.plain : D → Bool
  | .non => true
  | .bl _ => true
  | .int _ => true
  | .str _ => true
  | .tup ds => plains ds
  | .lst ds => plains ds
  | .obj _ _ => false
  | .bag => false
  | .cls _ => false
  | .lat _ _ => false
  | .scr _ => false
  | .exn _ _ _ _ => false
@[simp] def plains : List D → Bool
  | [] => true
  | d :: ds => d.plain && plains ds
end
def shp (d : D) : Bool := d.plain && SeqAt.shaped d.py
def eqB (d e : D) : Bool := PyData.eqv d.py e.py
mutual
theorem Rep.dp {K : PySem.W.Frag} {T : Tab} {B : Option Addr} {M : Addr → Prop} {H : Hp} : ∀ (d : D) (v : V), d.plain = true → Rep K T B M H d v → Dp K H v d.py
  | .non, _, _, h => by rw [show _ = V.non from h]; exact .non
  | .bl b, _, _, h => by rw [show _ = V.bl b from h]; exact .bl b
  | .int i, _, _, h => by rw [show _ = V.int i from h]; exact .int i
  | .str x, _, _, h => by rw [show _ = V.str x from h]; exact .str x
  | .tup ds, _, p, ⟨a, vs, e, s, r⟩ => by rw [e]; exact .tup s (Reps.dp ds vs p r)
  | .lst ds, _, p, ⟨a, vs, e, s, m, r⟩ => by rw [e]; exact .lst (SqL.of s) (Reps.dp ds vs p r)
  | .obj c ds, _, p, _ => by cases p
  | .bag, _, p, _ => by cases p
  | .cls _, _, p, _ => by cases p
  | .lat _ _, _, p, _ => by cases p
  | .scr _, _, p, _ => by cases p
  | .exn _ _ _ _, _, p, _ => by cases p
theorem Reps.dp {K : PySem.W.Frag} {T : Tab} {B : Option Addr} {M : Addr → Prop} {H : Hp} : ∀ (ds : List D) (vs : List V), plains ds = true → Reps K T B M H ds vs → DpAll K H vs (pys ds)
  | [], _, _, h => by rw [show _ = [] from h]; exact .nil
  | d :: ds, _, p, ⟨v, r, e, h1, h2⟩ => by
    have p2 : (d.plain && plains ds) = true := p
    obtain ⟨p3, p4⟩ := Bool.and_eq_true_iff.mp p2
    rw [e]
    exact .cons (Rep.dp d v p3 h1) (Reps.dp ds r p4 h2)
end
theorem pys_any (d : D) : ∀ ds : List D, ((pys ds).any fun z => PyData.eqv z d.py) = ds.any fun z => eqB z d
  | [] => rfl
  | e :: es => by
    show (PyData.eqv e.py d.py || (pys es).any _) = (eqB e d || es.any _)
    rw [pys_any d es]
    rfl
@[simp] def fEq : DF2 := fun _ d _ d' Q => (shp d = true ∧ shp d' = true) ∧ Q (.v 2 (.bl (eqB d d')))
@[simp] def fNe : DF2 := fun _ d _ d' Q => (shp d = true ∧ shp d' = true) ∧ Q (.v 2 (.bl (!eqB d d')))
@[simp] def fIn : DF2 := fun _ d _ d' Q => match d' with
  | .lst ds => (shp d = true ∧ shp (.lst ds) = true) ∧ Q (.v 2 (.bl (ds.any fun z => eqB z d)))
  | _ => False
@[simp] def fNotIn : DF2 := fun _ d _ d' Q => match d' with
  | .lst ds => (shp d = true ∧ shp (.lst ds) = true) ∧ Q (.v 2 (.bl (!ds.any fun z => eqB z d)))
  | _ => False
def isNon : D → Bool
  | .non => true
  | _ => false
@[simp] theorem isNon_n : isNon .non = true := rfl
@[simp] theorem isNon_b (x : Bool) : isNon (.bl x) = false := rfl
@[simp] theorem isNon_i (x : Int) : isNon (.int x) = false := rfl
@[simp] theorem isNon_s (x : Str) : isNon (.str x) = false := rfl
@[simp] theorem isNon_t (x : List D) : isNon (.tup x) = false := rfl
@[simp] theorem isNon_l (x : List D) : isNon (.lst x) = false := rfl
@[simp] theorem isNon_o (c : Nat) (x : List D) : isNon (.obj c x) = false := rfl
theorem shp_dp {K : PySem.W.Frag} {T : Tab} {B : Option Addr} {M : Addr → Prop} {H : Hp} {d : D} {v : V} (h : shp d = true) (r : Rep K T B M H d v) : Dp K H v d.py ∧ SeqAt.shaped d.py = true := by
  obtain ⟨h1, h2⟩ := Bool.and_eq_true_iff.mp h
  exact ⟨Rep.dp d v h1 r, h2⟩
section
variable {K : PySem.W.Frag} {T : Tab}
theorem r2_eq : R2D K T (rEqD K) fEq := by
  intro S τ σ H g d g' d' v u QD Q sr r1 r2 q k
  obtain ⟨⟨h1, h2⟩, q⟩ := q
  obtain ⟨p1, s1⟩ := shp_dp h1 r1
  obtain ⟨p2, s2⟩ := shp_dp h2 r2
  exact ⟨_, _, p1, p2, s1, s2, k H _ (.v 2 (.bl (eqB d d'))) sr.same rfl q⟩
theorem r2_ne : R2D K T (rNeD K) fNe := by
  intro S τ σ H g d g' d' v u QD Q sr r1 r2 q k
  obtain ⟨⟨h1, h2⟩, q⟩ := q
  obtain ⟨p1, s1⟩ := shp_dp h1 r1
  obtain ⟨p2, s2⟩ := shp_dp h2 r2
  exact ⟨_, _, p1, p2, s1, s2, k H _ (.v 2 (.bl (!eqB d d'))) sr.same rfl q⟩
theorem r2_in : R2D K T (rInD K) fIn := by
  intro S τ σ H g d g' d' v u QD Q sr r1 r2 q k
  cases d' with
  | lst ds =>
    obtain ⟨⟨h1, h2⟩, q⟩ := q
    obtain ⟨p1, s1⟩ := shp_dp h1 r1
    obtain ⟨p2, s2⟩ := shp_dp h2 r2
    refine ⟨_, pys ds, p1, p2, s1, s2, ?_⟩
    rw [pys_any]
    exact k H _ (.v 2 (.bl _)) sr.same rfl q
  | _ => exact (show False from q).elim
theorem r2_notIn : R2D K T (rNotInD K) fNotIn := by
  intro S τ σ H g d g' d' v u QD Q sr r1 r2 q k
  cases d' with
  | lst ds =>
    obtain ⟨⟨h1, h2⟩, q⟩ := q
    obtain ⟨p1, s1⟩ := shp_dp h1 r1
    obtain ⟨p2, s2⟩ := shp_dp h2 r2
    refine ⟨_, pys ds, p1, p2, s1, s2, ?_⟩
    rw [pys_any]
    exact k H _ (.v 2 (.bl _)) sr.same rfl q
  | _ => exact (show False from q).elim
theorem Rep.isNon {B : Option Addr} {M : Addr → Prop} {H : Hp} : ∀ {d : D} {v : V}, Rep K T B M H d v → decide (v = .non) = DL.isNon d
  | .non, _, h => by rw [show _ = V.non from h]; rfl
  | .bl b, _, h => by rw [show _ = V.bl b from h]; rfl
  | .int i, _, h => by rw [show _ = V.int i from h]; rfl
  | .str x, _, h => by rw [show _ = V.str x from h]; rfl
  | .tup ds, _, ⟨a, vs, e, s, r⟩ => by rw [e]; rfl
  | .lst ds, _, ⟨a, vs, e, s, m, r⟩ => by rw [e]; rfl
  | .obj c ds, _, ⟨a, dx, vs, e, s, m, r⟩ => by rw [e]; rfl
  | .bag, _, ⟨b, _, e⟩ => by rw [e]; rfl
  | .cls c, _, h => by rw [show _ = V.ref (T c).1 from h]; rfl
  | .lat a ds, _, ⟨vs, e, s, m, r⟩ => by rw [e]; rfl
  | .scr _, _, ⟨a, e, _⟩ => by rw [e]; rfl
  | .exn _ _ _ _, _, ⟨vs, e, _⟩ => by rw [e]; rfl
end
section
variable {X : Cx} {T : Tab} {a b : Expr} {ta tb : DTE} {pos : Pos}
theorem de_eq (hu : X.A.units + 64 < cLine) (ha : PE X a (UpE X.K T ta)) (hb : PE X b (UpE X.K T tb)) : PE X (.Compare a [.Eq] [b] pos) (UpE X.K T (dOp fEq ta tb)) := de_cmp (op_eqD hu) r2_eq ha hb (nomark _)
theorem de_ne (hu : X.A.units + 64 < cLine) (ha : PE X a (UpE X.K T ta)) (hb : PE X b (UpE X.K T tb)) : PE X (.Compare a [.NotEq] [b] pos) (UpE X.K T (dOp fNe ta tb)) := de_cmp (op_neD hu) r2_ne ha hb (nomark _)
theorem de_in (hu : X.A.units + 65 < cLine) (ha : PE X a (UpE X.K T ta)) (hb : PE X b (UpE X.K T tb)) (hm : behindInMarks .In b = false) : PE X (.Compare a [.In] [b] pos) (UpE X.K T (dOp fIn ta tb)) := de_cmp (op_inD hu) r2_in ha hb hm
theorem de_notIn (hu : X.A.units + 65 < cLine) (ha : PE X a (UpE X.K T ta)) (hb : PE X b (UpE X.K T tb)) (hm : behindInMarks .NotIn b = false) : PE X (.Compare a [.NotIn] [b] pos) (UpE X.K T (dOp fNotIn ta tb)) := de_cmp (op_notInD hu) r2_notIn ha hb hm
@[simp] def dIsN (ta : DTE) : DTE := fun τ Q => ta τ fun s => Q (.v 2 (.bl (isNon s.d)))
@[simp] def dNotN (ta : DTE) : DTE := fun τ Q => ta τ fun s => Q (.v 2 (.bl (!isNon s.d)))
theorem de_isN {j pos'} (ha : PE X a (UpE X.K T ta)) : PE X (.Compare a [.Is] [.Constant .none j pos'] pos) (UpE X.K T (dIsN ta)) :=
  (pe_cmp (pc_isN ha) rfl).of fun σ H Q ⟨S, τ, QD, sr, h, k⟩ => ⟨S, τ, _, sr, h, fun H1 v x a1 r1 q1 => by
    show Q (V.bl (decide (v = V.non))) H1
    rw [(r1.g sr).isNon]
    exact k H1 _ (.v 2 (.bl _)) a1 rfl q1⟩
theorem de_notN {j pos'} (ha : PE X a (UpE X.K T ta)) : PE X (.Compare a [.IsNot] [.Constant .none j pos'] pos) (UpE X.K T (dNotN ta)) :=
  (pe_cmp (pc_notN ha) rfl).of fun σ H Q ⟨S, τ, QD, sr, h, k⟩ => ⟨S, τ, _, sr, h, fun H1 v x a1 r1 q1 => by
    show Q (V.bl (!decide (v = V.non))) H1
    rw [(r1.g sr).isNon]
    exact k H1 _ (.v 2 (.bl _)) a1 rfl q1⟩

/-! ### tests -/
@[simp] def tV (te : DTE) : DTT := fun τ Q => te τ fun s => match s.d with
  | .bl b => Q b
  | _ => False
theorem dt_val (h : PE X a (UpE X.K T ta)) (he : ∀ whole, isTrue a X.env whole = (do let v ← whole; standAt a.pos; holding [v] (truthy v)) := by intro _; rfl) : PT X a (UpT X.K T (tV ta)) :=
  (pt_val h he).of fun σ H Q ⟨S, τ, QD, sr, h, k⟩ => ⟨S, τ, _, sr, h, fun H1 v x a1 r1 q1 => by
    have r := r1.g sr
    split at q1
    · rename_i b e
      rw [e] at r
      exact ⟨b, r, k H1 b a1 q1⟩
    · exact q1.elim⟩
theorem dt_cmp {op : CmpOp} {r : R2} {f : DF2} (ho : OpR X (compareOp op) r) (hr : R2D X.K T r f) (ha : PE X a (UpE X.K T ta)) (hb : PE X b (UpE X.K T tb)) (hm : behindInMarks op b = false) : PT X (.Compare a [op] [b] pos) (UpT X.K T (tV (dOp f ta tb))) :=
  (pt_cmpR ho ha hb hm).of fun σ H Q ⟨S, τ, QD, sr, h, k⟩ => up_op hr ⟨S, τ, _, sr, h, fun H1 v x a1 r1 q1 => by
    have r := r1.g sr
    split at q1
    · rename_i b e
      rw [e] at r
      exact ⟨b, r, k H1 b a1 q1⟩
    · exact q1.elim⟩
theorem dt_isN {j pos'} (ha : PE X a (UpE X.K T ta)) : PT X (.Compare a [.Is] [.Constant .none j pos'] pos) (UpT X.K T (tV (dIsN ta))) :=
  (pt_cmp (pc_isN ha) rfl).of fun σ H Q ⟨S, τ, QD, sr, h, k⟩ => ⟨S, τ, _, sr, h, fun H1 v x a1 r1 q1 => by
    show ∃ c, V.bl (decide (v = V.non)) = V.bl c ∧ Q c H1
    rw [(r1.g sr).isNon]
    exact ⟨_, rfl, k H1 _ a1 q1⟩⟩
theorem dt_notN {j pos'} (ha : PE X a (UpE X.K T ta)) : PT X (.Compare a [.IsNot] [.Constant .none j pos'] pos) (UpT X.K T (tV (dNotN ta))) :=
  (pt_cmp (pc_notN ha) rfl).of fun σ H Q ⟨S, τ, QD, sr, h, k⟩ => ⟨S, τ, _, sr, h, fun H1 v x a1 r1 q1 => by
    show ∃ c, V.bl (!decide (v = V.non)) = V.bl c ∧ Q c H1
    rw [(r1.g sr).isNon]
    exact ⟨_, rfl, k H1 _ a1 q1⟩⟩
@[simp] def tvAnd (t u : DTT) : DTT := fun τ Q => t τ fun c => if c = true then u τ Q else Q false
@[simp] def tvOr (t u : DTT) : DTT := fun τ Q => t τ fun c => if c = true then Q true else u τ Q
@[simp] def tvNot (t : DTT) : DTT := fun τ Q => t τ fun c => Q (!c)
variable {rest : List Expr} {t u : DTT}
theorem dw_and1 (ha : PT X a (UpT X.K T t)) : PW X (.BoolOp .And [a] pos) (UpT X.K T t) := pw_and1 ha
theorem dw_or1 (ha : PT X a (UpT X.K T t)) : PW X (.BoolOp .Or [a] pos) (UpT X.K T t) := pw_or1 ha
theorem dw_and (ha : PT X a (UpT X.K T t)) (hb : PW X (.BoolOp .And (b :: rest) pos) (UpT X.K T u)) : PW X (.BoolOp .And (a :: b :: rest) pos) (UpT X.K T (tvAnd t u)) :=
  (pw_and ha hb).of fun σ H Q ⟨S, τ, QD, sr, h, k⟩ => ⟨S, τ, _, sr, h, fun H1 c a1 q1 => by
    cases c with
    | true => exact ⟨S, τ, QD, sr.aft a1, q1, fun H2 b a2 q2 => k H2 b (a1.trans a2) q2⟩
    | false => exact k H1 false a1 q1⟩
theorem dw_or (ha : PT X a (UpT X.K T t)) (hb : PW X (.BoolOp .Or (b :: rest) pos) (UpT X.K T u)) : PW X (.BoolOp .Or (a :: b :: rest) pos) (UpT X.K T (tvOr t u)) :=
  (pw_or ha hb).of fun σ H Q ⟨S, τ, QD, sr, h, k⟩ => ⟨S, τ, _, sr, h, fun H1 c a1 q1 => by
    cases c with
    | true => exact k H1 true a1 q1
    | false => exact ⟨S, τ, QD, sr.aft a1, q1, fun H2 b a2 q2 => k H2 b (a1.trans a2) q2⟩⟩
theorem dt_not (ha : PT X a (UpT X.K T t)) : PT X (.UnaryOp .Not a pos) (UpT X.K T (tvNot t)) :=
  (pt_not ha).of fun σ H Q ⟨S, τ, QD, sr, h, k⟩ => ⟨S, τ, _, sr, h, fun H1 c a1 q1 => k H1 (!c) a1 q1⟩
/-- as values -/
@[simp] def vAnd (ta tb : DTE) : DTE := fun τ Q => ta τ fun s => match s.d with
  | .bl c => if c = true then tb τ Q else Q (.v 2 (.bl false))
  | _ => False
@[simp] def vOr (ta tb : DTE) : DTE := fun τ Q => ta τ fun s => match s.d with
  | .bl c => if c = true then Q (.v 2 (.bl true)) else tb τ Q
  | _ => False
@[simp] def vNot (ta : DTE) : DTE := fun τ Q => ta τ fun s => match s.d with
  | .bl c => Q (.v 2 (.bl (!c)))
  | _ => False
theorem de_one {op} (h : PE X a (UpE X.K T ta)) : PE X (.BoolOp op [a] pos) (UpE X.K T ta) := pe_one h
theorem de_and (ha : PE X a (UpE X.K T ta)) (hb : PE X (.BoolOp .And (b :: rest) pos) (UpE X.K T tb)) : PE X (.BoolOp .And (a :: b :: rest) pos) (UpE X.K T (vAnd ta tb)) :=
  (pe_and ha hb).of fun σ H Q ⟨S, τ, QD, sr, h, k⟩ => ⟨S, τ, _, sr, h, fun H1 v x a1 r1 q1 => by
    have r := r1.g sr
    split at q1
    · rename_i c e
      rw [e] at r
      refine ⟨c, r, ?_⟩
      cases c with
      | true => exact ⟨S, τ, QD, sr.aft a1, q1, fun H2 w sl a2 r2 q2 => k H2 w sl (a1.trans a2) (r2.back a1) q2⟩
      | false => exact k H1 _ (.v 2 (.bl false)) a1 rfl q1
    · exact q1.elim⟩
theorem de_or (ha : PE X a (UpE X.K T ta)) (hb : PE X (.BoolOp .Or (b :: rest) pos) (UpE X.K T tb)) : PE X (.BoolOp .Or (a :: b :: rest) pos) (UpE X.K T (vOr ta tb)) :=
  (pe_or ha hb).of fun σ H Q ⟨S, τ, QD, sr, h, k⟩ => ⟨S, τ, _, sr, h, fun H1 v x a1 r1 q1 => by
    have r := r1.g sr
    split at q1
    · rename_i c e
      rw [e] at r
      refine ⟨c, r, ?_⟩
      cases c with
      | false => exact ⟨S, τ, QD, sr.aft a1, q1, fun H2 w sl a2 r2 q2 => k H2 w sl (a1.trans a2) (r2.back a1) q2⟩
      | true => exact k H1 _ (.v 2 (.bl true)) a1 rfl q1
    · exact q1.elim⟩
theorem de_not (ha : PE X a (UpE X.K T ta)) : PE X (.UnaryOp .Not a pos) (UpE X.K T (vNot ta)) :=
  (pe_not ha).of fun σ H Q ⟨S, τ, QD, sr, h, k⟩ => ⟨S, τ, _, sr, h, fun H1 v x a1 r1 q1 => by
    have r := r1.g sr
    split at q1
    · rename_i c e
      rw [e] at r
      exact ⟨c, r, k H1 _ (.v 2 (.bl (!c))) a1 rfl q1⟩
    · exact q1.elim⟩
@[simp] def dIfE (t : DTT) (ta tb : DTE) : DTE := fun τ Q => t τ fun c => if c = true then ta τ Q else tb τ Q
theorem de_ifExp {c : Expr} (hc : PT X c (UpT X.K T t)) (ha : PE X a (UpE X.K T ta)) (hb : PE X b (UpE X.K T tb)) : PE X (.IfExp c a b pos) (UpE X.K T (dIfE t ta tb)) :=
  (pe_ifExp hc ha hb).of fun σ H Q ⟨S, τ, QD, sr, h, k⟩ => ⟨S, τ, _, sr, h, fun H1 c a1 q1 => by
    cases c with
    | true => exact ⟨S, τ, QD, sr.aft a1, q1, fun H2 w sl a2 r2 q2 => k H2 w sl (a1.trans a2) (r2.back a1) q2⟩
    | false => exact ⟨S, τ, QD, sr.aft a1, q1, fun H2 w sl a2 r2 q2 => k H2 w sl (a1.trans a2) (r2.back a1) q2⟩⟩
end

/-! ### built-in calls -/
abbrev DCB := Nat → List D → (Sl → Prop) → Prop
@[simp] def dCB (f : DCB) (ta : DTA) : DTE := fun τ Q => ta τ fun g ds => f g ds Q
def CBD (K : PySem.W.Frag) (T : Tab) (r : List V → Hp → VK → Prop) (f : DCB) : Prop := ∀ (S : Sit) (τ : DSt) (σ : L2.St) (H : Hp) (g : Nat) (ds : List D) (vs : List V) (QD : Sl → Prop) (Q : VK), SR K T S τ σ H → RepsG K T S g H ds vs → f g ds QD →
  (∀ H' w sl, Aft K T S H H' → RepSl K T S H H' sl w → QD sl → Q w H') → r vs H Q
section
variable {X : Cx} {T : Tab} {e : Expr} {es : List Expr} {t : DTA} {id Ty : String} {r : List V → Hp → VK → Prop} {f : DCB} {x : Str} {p pos : Pos}
theorem de_cb {c : Expr} (hr : CBD X.K T r f) (h : PE X c (tCB r (UpA X.K T t))) : PE X c (UpE X.K T (dCB f t)) :=
  h.of fun σ H Q ⟨S, τ, QD, sr, h, k⟩ => ⟨S, τ, _, sr, h, fun H1 vs g ds a1 r1 q1 =>
    hr S τ σ H1 g ds vs QD Q (sr.aft a1) r1 q1 fun H2 w sl a2 r2 q2 => k H2 w sl (a1.trans a2) (r2.back a1) q2⟩
end
@[simp] def fLen : DCB := fun _ ds Q => match ds with
  | [d] => match elems d with
    | some es => Q (.v 2 (.int (es.length : Nat)))
    | none => False
  | _ => False
@[simp] def fList : DCB := fun g ds Q => match ds with
  | [d] => match elems d with
    | some es => Q (mkL (upl g es) es)
    | none => False
  | _ => False
@[simp] def fMax : DCB := fun _ ds Q => match ds with
  | [.int i, .int j] => Q (.v 2 (.int (if j > i then j else i)))
  | _ => False
@[simp] def fMin : DCB := fun _ ds Q => match ds with
  | [.int i, .int j] => Q (.v 2 (.int (if j < i then j else i)))
  | _ => False
@[simp] def fInt : DCB := fun _ ds Q => match ds with
  | [.int i] => Q (.v 2 (.int i))
  | [.bl b] => Q (.v 2 (.int (if b then 1 else 0)))
  | _ => False
@[simp] def fTuple : DCB := fun g ds Q => match ds with
  | [d] => match elems d with
    | some es => Q (.v (upl g es) (.tup es))
    | none => False
  | _ => False
section
variable {K : PySem.W.Frag} {T : Tab}
theorem Reps.two {B : Option Addr} {M : Addr → Prop} {H : Hp} {d e : D} {vs : List V} (h : Reps K T B M H [d, e] vs) : ∃ v u, vs = [v, u] ∧ Rep K T B M H d v ∧ Rep K T B M H e u := by
  obtain ⟨v, r, e1, h1, u, r', e2, h2, e3⟩ := h
  have e3 : r' = [] := e3
  exact ⟨v, u, by rw [e1, e2, e3], h1, h2⟩
theorem Reps.one' {B : Option Addr} {M : Addr → Prop} {H : Hp} {d : D} {vs : List V} (h : Reps K T B M H [d] vs) : ∃ v, vs = [v] ∧ Rep K T B M H d v := by
  obtain ⟨v, r, e1, h1, e3⟩ := h
  have e3 : r = [] := e3
  exact ⟨v, by rw [e1, e3], h1⟩
theorem Rep.el {B : Option Addr} {M : Addr → Prop} {H : Hp} {d : D} {v : V} {es : List D} (h : Rep K T B M H d v) (e : elems d = some es) : ∃ p vs, v = .ref p ∧ (SqL K H p vs ∨ SqT K H p vs) ∧ Reps K T B M H es vs := by
  cases d with
  | lst ds =>
    cases e
    obtain ⟨a, vs, rfl, e1, _, r⟩ := h
    exact ⟨a, vs, rfl, .inl (SqL.of e1), r⟩
  | tup ds =>
    cases e
    obtain ⟨a, vs, rfl, e1, r⟩ := h
    exact ⟨a, vs, rfl, .inr e1, r⟩
  | _ => cases e
theorem cb_len : CBD K T (fun xs H Q => ∃ p ys, xs = [.ref p] ∧ (SqL K H p ys ∨ SqT K H p ys) ∧ Q (.int ys.length) H) fLen := by
  intro S τ σ H g ds vs QD Q sr r q k
  unfold fLen at q
  split at q
  · rename_i d
    obtain ⟨v, rfl, r0⟩ := r.one'
    split at q
    · rename_i es e
      obtain ⟨p, us, rfl, hs, r1⟩ := Rep.el r0 e
      exact ⟨p, us, rfl, hs, k H _ (.v 2 (.int (es.length : Nat))) sr.same (by rw [r1.len]; rfl) q⟩
    · exact q.elim
  · exact q.elim
theorem cb_list : CBD K T (fun xs H Q => ∃ p ys, xs = [.ref p] ∧ (SqL K H p ys ∨ SqT K H p ys) ∧ ∀ l, H l = none → Q (.ref l) (upd H l (.lst ys))) fList := by
  intro S τ σ H g ds vs QD Q sr r q k
  unfold fList at q
  split at q
  · rename_i d
    obtain ⟨v, rfl, r0⟩ := r.one'
    split at q
    · rename_i es e
      obtain ⟨p, us, rfl, hs, r1⟩ := Rep.el r0 e
      exact ⟨p, us, rfl, hs, fun l hl => k _ _ _ (sr.laid hl) (RepSl.mkL sr hl upd_same (Kp.laid hl) (RepsG.upl r1)) q⟩
    · exact q.elim
  · exact q.elim
theorem cb_max : CBD K T (fun xs H Q => ∃ i j, xs = [.int i, .int j] ∧ Q (.int (if j > i then j else i)) H) fMax := by
  intro S τ σ H g ds vs QD Q sr r q k
  unfold fMax at q
  split at q
  · rename_i i j
    obtain ⟨v, u, rfl, r1, r2⟩ := r.two
    exact ⟨i, j, by rw [show v = V.int i from r1, show u = V.int j from r2], k H _ (.v 2 (.int _)) sr.same rfl q⟩
  · exact q.elim
theorem cb_min : CBD K T (fun xs H Q => ∃ i j, xs = [.int i, .int j] ∧ Q (.int (if j < i then j else i)) H) fMin := by
  intro S τ σ H g ds vs QD Q sr r q k
  unfold fMin at q
  split at q
  · rename_i i j
    obtain ⟨v, u, rfl, r1, r2⟩ := r.two
    exact ⟨i, j, by rw [show v = V.int i from r1, show u = V.int j from r2], k H _ (.v 2 (.int _)) sr.same rfl q⟩
  · exact q.elim
theorem cb_int : CBD K T (fun xs H Q => (∃ i, xs = [.int i] ∧ Q (.int i) H) ∨ ∃ k, xs = [.bl k] ∧ Q (.int (if k then 1 else 0)) H) fInt := by
  intro S τ σ H g ds vs QD Q sr r q k
  unfold fInt at q
  split at q
  · rename_i i
    obtain ⟨v, rfl, r0⟩ := r.one'
    exact .inl ⟨i, by rw [show v = V.int i from r0], k H _ (.v 2 (.int i)) sr.same rfl q⟩
  · rename_i b
    obtain ⟨v, rfl, r0⟩ := r.one'
    exact .inr ⟨b, by rw [show v = V.bl b from r0], k H _ (.v 2 (.int _)) sr.same rfl q⟩
  · exact q.elim
theorem cb_tuple : CBD K T (fun xs H Q => ∃ p ys, xs = [.ref p] ∧ ((SqL K H p ys ∧ ∀ l, H l = none → Q (.ref l) (upd H l (.tup ys))) ∨ (SqT K H p ys ∧ Q (.ref p) H))) fTuple := by
  intro S τ σ H g ds vs QD Q sr r q k
  unfold fTuple at q
  split at q
  · rename_i d
    obtain ⟨v, rfl, r0⟩ := r.one'
    split at q
    · rename_i es e
      obtain ⟨p, us, rfl, hs, r1⟩ := Rep.el r0 e
      have r' := RepsG.upl r1
      refine ⟨p, us, rfl, ?_⟩
      rcases hs with hs | hs
      · refine .inl ⟨hs, fun l hl => ?_⟩
        have a2 := sr.laid (o := .tup us) hl
        exact k _ _ (.v _ (.tup es)) a2 ⟨l, us, rfl, SqT.of upd_same, sr.reps a2.kp r'⟩ q
      · exact .inr ⟨hs, k _ _ (.v _ (.tup es)) sr.same ⟨p, us, rfl, hs, r'⟩ q⟩
    · exact q.elim
  · exact q.elim
end
end DL
/-! DL5: stores, targets, loops. -/
namespace DL
open PySem PySem.Spec PyProof.Rows L2
section
variable {K : PySem.W.Frag} {T : Tab} {S : Sit} {τ : DSt} {σ : L2.St} {H H' : Hp}
theorem set_at {α : Type} {l : List α} {i : Nat} {x y : α} (e : (l.set i x)[i]? = some y) : i < l.length ∧ y = x := by
  have hi : i < l.length := by
    rw [← List.length_set]
    exact (List.getElem?_eq_some_iff.mp e).1
  rw [List.getElem?_set_self hi] at e
  exact ⟨hi, (Option.some.inj e).symm⟩
/-- a list of one's own is changed -/
theorem SR.put {i : Nat} {ds es : List D} {p : Addr} {us : List V} (sr : SR K T S τ σ H) (e : τ[i]? = some (.own ds)) (eσ : σ[i]? = some (some (.ref p))) (r : RepsG K T S 2 H es us) :
    SR K T S (τ.set i (.own es)) σ (upd H p (.lst us)) ∧ Kp S.P H (upd H p (.lst us)) := by
  obtain ⟨p', vs, e1, e2, e3, e4, e5, _⟩ := sr.own i ds e
  rw [eσ] at e1
  have ep : p = p' := by
    have := Option.some.inj (Option.some.inj e1)
    exact V.ref.inj this
  subst ep
  have k : Kp S.P H (upd H p (.lst us)) := Kp.write e3 e2
  have h0 : Nv S.H0 p := sr.fr p e3 e4 e5
  have sub : ∀ g, 1 ≤ g → ∀ a, S.P a → gset S g a := fun g hg a z => match g, hg with
    | 1, _ => z
    | _ + 2, _ => .inl z
  refine ⟨⟨by rw [List.length_set]; exact sr.len, sr.bp, fun a h => k.s a (sr.al a h), sr.ml, ⟨fun a o h n tt => ?_, fun a xs h => k.t a xs (sr.kp.t a xs h), fun a o u h => k.z a o u (sr.kp.z a o u h), fun a h => k.s a (sr.kp.s a h)⟩, sr.xp, sr.fr, sr.bl, ?_, sr.lp, fun j g d q => ?_, fun j fs q => ?_, fun j c fs q => ?_, fun x hx => ⟨(sr.gh x hx).1, Rep.kp k (sub x.1 (sr.gh x hx).1) _ _ (sr.gh x hx).2⟩, fun j l fs gs q q1 q2 q3 q4 => ?_⟩, k⟩
  · have ne : a ≠ p := fun z => h0 (Lv.of (z ▸ h) tt)
    rw [upd_ne ne]
    exact sr.kp.k0 a o h n tt
  · refine sr.bag.kp (N := fun a => a = p) (Kp.write rfl e2) (Tk.write e2 (fun _ z => by cases z) fun _ z => by cases z) fun b hb => ⟨fun z => e4 (z ▸ hb), fun z => ?_⟩
    have z : S.L.a = p := z
    exact sr.lp b hb (by rw [z]; exact e3)
  · by_cases hj : i = j
    · subst hj
      cases (set_at q).2
    · rw [List.getElem?_set_ne hj] at q
      obtain ⟨hg, v, q1, h⟩ := sr.val j g d q
      exact ⟨hg, v, q1, Rep.kp k (sub g hg) d v h⟩
  · by_cases hj : i = j
    · subst hj
      cases (set_at q).2
      exact ⟨p, us, eσ, upd_same, e3, e4, e5, Reps.kp k (sub 2 (by decide)) es us r⟩
    · rw [List.getElem?_set_ne hj] at q
      obtain ⟨p2, ws, q1, q2, q3, q4, q5, h⟩ := sr.own j fs q
      have ne : p2 ≠ p := fun z => hj (sr.inj i j ds fs p e q eσ (by rw [q1, z]))
      exact ⟨p2, ws, q1, by rw [upd_ne ne]; exact q2, q3, q4, q5, Reps.kp k (sub 2 (by decide)) fs ws h⟩
  · by_cases hj : i = j
    · subst hj
      cases (set_at q).2
    · rw [List.getElem?_set_ne hj] at q
      obtain ⟨z, x, dx, ws, q1, q2, q3, h⟩ := sr.ins j c fs q
      exact ⟨z, x, dx, ws, q1, by rw [upd_ne fun z => e5 (by rw [← z]; exact q3)]; exact q2, q3, Reps.kp k (sub 2 (by decide)) fs ws h⟩
  · have old : ∀ (j : Nat) (fs : List D), (τ.set i (.own es))[j]? = some (.own fs) → ∃ gs, τ[j]? = some (.own gs) := fun j fs q => by
      by_cases hj : i = j
      · subst hj; exact ⟨ds, e⟩
      · rw [List.getElem?_set_ne hj] at q; exact ⟨fs, q⟩
    obtain ⟨f1, g1⟩ := old j fs q1
    obtain ⟨f2, g2⟩ := old l gs q2
    exact sr.inj j l f1 f2 q g1 g2 q3 q4
/-- a list of one's own is forgotten to be: it stays as it is -/
theorem SR.freeze {i : Nat} {ds : List D} (sr : SR K T S τ σ H) (e : τ[i]? = some (.own ds)) : ∃ P', SR K T { S with P := P' } (τ.set i (.v 2 (.lst ds))) σ H := by
  obtain ⟨p, vs, e1, e2, e3, e4, e5, r⟩ := sr.own i ds e
  have h0 : Nv S.H0 p := sr.fr p e3 e4 e5
  have nm : ¬ S.M p := fun z => h0 (sr.ml p z)
  have sub : ∀ g a, gset { S with P := fun a => S.P a ∧ a ≠ p } g a → gset S g a := fun g a z => match g, z with
    | 0, z => z
    | 1, z => z.1
    | _ + 2, z => Or.elim z (fun z => .inl z.1) .inr
  refine ⟨fun a => S.P a ∧ a ≠ p, by rw [List.length_set]; exact sr.len, fun a z => ⟨sr.bp a z, fun q => e4 (q ▸ z)⟩, fun a z => sr.al a z.1, sr.ml, sr.kp, fun a z => ⟨⟨(sr.xp a z).1, fun q => e5 (q ▸ z)⟩, (sr.xp a z).2⟩, fun a z => sr.fr a z.1, sr.bl, sr.bag, fun b z q => sr.lp b z q.1, fun j g d q => ?_, fun j fs q => ?_, fun j c fs q => ?_, fun x hx => ⟨(sr.gh x hx).1, Rep.anti (sub x.1) _ _ (sr.gh x hx).2⟩, fun j l fs gs q q1 q2 q3 q4 => ?_⟩
  · by_cases hj : i = j
    · subst hj
      cases (set_at q).2
      refine ⟨by decide, .ref p, e1, p, vs, rfl, e2, fun z => ?_, Reps.anti (sub 2) ds vs r⟩
      exact Or.elim z (fun z => z.2 rfl) nm
    · rw [List.getElem?_set_ne hj] at q
      obtain ⟨hg, v, q1, h⟩ := sr.val j g d q
      exact ⟨hg, v, q1, Rep.anti (sub g) d v h⟩
  · by_cases hj : i = j
    · subst hj
      cases (set_at q).2
    · rw [List.getElem?_set_ne hj] at q
      obtain ⟨p2, ws, q1, q2, q3, q4, q5, h⟩ := sr.own j fs q
      have ne : p2 ≠ p := fun z => hj (sr.inj i j ds fs p e q e1 (by rw [q1, z]))
      exact ⟨p2, ws, q1, q2, ⟨q3, ne⟩, q4, q5, Reps.anti (sub 2) fs ws h⟩
  · by_cases hj : i = j
    · subst hj
      cases (set_at q).2
    · rw [List.getElem?_set_ne hj] at q
      obtain ⟨z, x, dx, ws, q1, q2, q3, h⟩ := sr.ins j c fs q
      exact ⟨z, x, dx, ws, q1, q2, q3, Reps.anti (sub 2) fs ws h⟩
  · have old : ∀ (j : Nat) (fs : List D), (τ.set i (.v 2 (.lst ds)))[j]? = some (.own fs) → τ[j]? = some (.own fs) := fun j fs q => by
      by_cases hj : i = j
      · subst hj
        cases (set_at q).2
      · rw [List.getElem?_set_ne hj] at q; exact q
    exact sr.inj j l fs gs q (old j fs q1) (old l gs q2) q3 q4
end

/-! ### names set -/
@[simp] def setQ (i : Nat) (τ : DSt) (R : DSt → Prop) (sl : Sl) : Prop := match sl with
  | .v g d => Nat.ble 1 (up g d) = true ∧ R (τ.set i (.v (up g d) d))
  | .own ds => R (τ.set i (.v 2 (.lst ds)))
  | _ => False
@[simp] def setOQ (i : Nat) (τ : DSt) (R : DSt → Prop) (sl : Sl) : Prop := match sl with
  | .own ds => R (τ.set i (.own ds))
  | _ => False
@[simp] def dSet (i : Nat) (te : DTE) : DTS := fun D τ => te τ (setQ i τ D.nx)
@[simp] def dSetO (i : Nat) (te : DTE) : DTS := fun D τ => te τ (setOQ i τ D.nx)
@[simp] def dFrz (i : Nat) (t : DTS) : DTS := fun D τ => match τ[i]? with
  | some (.own ds) => t D (τ.set i (.v 2 (.lst ds)))
  | _ => t D τ
section
variable {X : Cx} {T : Tab} {e : Expr} {te : DTE} {pos pos' : Pos} {i : Nat} {x : Str}
theorem out_set {K : PySem.W.Frag} {S : Sit} {τ : DSt} {σ : L2.St} {H H1 : Hp} {DD : DEnds} {D : Ends} {v : V} {sl : Sl} (sr : SR K T S τ σ H) (a : Aft K T S H H1) (r : RepSl K T S H H1 sl v) (o : Out K T ek S DD D)
    (q : setQ i τ DD.nx sl) : D.nx (σ.set i (some v)) H1 := by
  cases sl with
  | v g d => exact o.nx S.P _ _ H1 ((sr.aft a).setV (Nat.le_of_ble_eq_true q.1) (RepG.up r)) q.2
  | own ds => exact o.nx S.P _ _ H1 ((sr.aft a).setV (g := 2) (d := .lst ds) (by decide) (r.g sr)) q
  | un => exact (show False from q).elim
  | ins c ds => exact (show False from q).elim
theorem out_setO {K : PySem.W.Frag} {S : Sit} {τ : DSt} {σ : L2.St} {H H1 : Hp} {DD : DEnds} {D : Ends} {v : V} {sl : Sl} (sr : SR K T S τ σ H) (a : Aft K T S H H1) (r : RepSl K T S H H1 sl v) (o : Out K T ek S DD D)
    (q : setOQ i τ DD.nx sl) : D.nx (σ.set i (some v)) H1 := by
  cases sl with
  | own ds =>
    obtain ⟨p, vs, rfl, h1, h2, h3⟩ := r
    exact o.nx _ _ _ H1 (sr.setO a h1 h2 h3) q
  | _ => exact (show False from q).elim
theorem ds_set (hN : X.N.Nodup) (hi : X.N[i]? = some x) (hx : Loc X.env.scope x) (he : PE X e (UpE X.K T te)) (hs : swapsWith e (some (.Name x pos')) pos.line X.env = pure false := by rfl)
    (hf : X.fn x = true ∨ X.env.scope.names.lookup x = some .local := by first | exact .inl rfl | exact .inr rfl | assumption) : PS X (.Assign [.Name x pos'] e pos) (UpS X.K T ek (dSet i te)) :=
  (ps_set hN hi hx he hs hf).of fun D σ H ⟨S, τ, DD, sr, h, o⟩ => ⟨S, τ, _, sr, h, fun H1 v sl a r q => out_set sr a r o q⟩
theorem ds_setO (hN : X.N.Nodup) (hi : X.N[i]? = some x) (hx : Loc X.env.scope x) (he : PE X e (UpE X.K T te)) (hs : swapsWith e (some (.Name x pos')) pos.line X.env = pure false := by rfl)
    (hf : X.fn x = true ∨ X.env.scope.names.lookup x = some .local := by first | exact .inl rfl | exact .inr rfl | assumption) : PS X (.Assign [.Name x pos'] e pos) (UpS X.K T ek (dSetO i te)) :=
  (ps_set hN hi hx he hs hf).of fun D σ H ⟨S, τ, DD, sr, h, o⟩ => ⟨S, τ, _, sr, h, fun H1 v sl a r q => out_setO sr a r o q⟩
/-- ahead of statements: a list of one's own stays from now on as it is -/
theorem ds_frz {sts : List Stmt} {t : DTS} (h : PSs X sts (UpS X.K T ek t)) : PSs X sts (UpS X.K T ek (dFrz i t)) :=
  h.of fun D σ H ⟨S, τ, DD, sr, h, o⟩ => by
    unfold dFrz at h
    split at h
    · rename_i ds e
      obtain ⟨P', sr'⟩ := sr.freeze e
      exact ⟨{ S with P := P' }, _, DD, sr', h, ⟨fun P2 => o.nx P2, fun P2 => o.bk P2, fun P2 => o.ct P2, fun H2 v sl a b => o.rt H2 v sl a b, fun P2 => o.rb P2, o.er⟩⟩
    · exact ⟨S, τ, DD, sr, h, o⟩
end

/-! ### targets -/
abbrev DTG := Nat → D → DSt → (DSt → Prop) → Prop
abbrev DTGs := Nat → List D → DSt → (DSt → Prop) → Prop
def UpG (K : PySem.W.Frag) (T : Tab) (t : DTG) : TG := fun v σ H Q => ∃ (S : Sit) (τ : DSt) (g : Nat) (d : D) (QD : DSt → Prop), SR K T S τ σ H ∧ RepG K T S g H d v ∧ t g d τ QD ∧ ∀ τ' σ' H', SR K T S τ' σ' H' → Kp S.P H H' → QD τ' → Q σ' H'
def UpGs (K : PySem.W.Frag) (T : Tab) (t : DTGs) : TGs := fun vs σ H Q => ∃ (S : Sit) (τ : DSt) (g : Nat) (ds : List D) (QD : DSt → Prop), SR K T S τ σ H ∧ 1 ≤ g ∧ RepsG K T S g H ds vs ∧ t g ds τ QD ∧ ∀ τ' σ' H', SR K T S τ' σ' H' → Kp S.P H H' → QD τ' → Q σ' H'
@[simp] def gN (i : Nat) : DTG := fun g d τ Q => Nat.ble 1 (up g d) = true ∧ Q (τ.set i (.v (up g d) d))
@[simp] def gsNil : DTGs := fun _ ds τ Q => match ds with
  | [] => Q τ
  | _ => False
@[simp] def gsCons (t : DTG) (u : DTGs) : DTGs := fun g ds τ Q => match ds with
  | d :: r => t g d τ fun τ1 => u g r τ1 Q
  | [] => False
@[simp] def gT (n : Nat) (t : DTGs) : DTG := fun g d τ Q => match d with
  | .tup ds => ds.length = n ∧ Nat.ble 1 (upl g ds) = true ∧ t (upl g ds) ds τ Q
  | _ => False
/-- a place of a list of one's own -/
@[simp] def gSub (i : Nat) (ti : DTE) : DTG := fun g d τ Q => match τ[i]? with
  | some (.own ds) => ti τ fun ix => match ix.d with
    | .int k => match ixN ds.length k with
      | some j => (Nat.ble 2 g || d.imm) = true ∧ Q (τ.set i (.own (ds.set j d)))
      | none => False
    | _ => False
  | _ => False
section
variable {X : Cx} {T : Tab} {pos : Pos} {i : Nat} {x : Str}
theorem dg_name (hN : X.N.Nodup) (hi : X.N[i]? = some x) (hx : Loc X.env.scope x) (hf : X.fn x = true ∨ X.env.scope.names.lookup x = some .local := by first | exact .inl rfl | exact .inr rfl | assumption) : PG X (.Name x pos) (UpG X.K T (gN i)) :=
  ⟨fun pins s σ H v u Q I r ⟨S, τ, g, d, QD, sr, rp, h, k⟩ => (pg_name hN hi hx hf).run pins s σ H v u Q I r (k _ _ H (sr.setV (Nat.le_of_ble_eq_true h.1) (RepG.up rp)) Kp.refl h.2)⟩
theorem dgs_nil : PGs X [] (UpGs X.K T gsNil) :=
  ⟨fun pins s σ H vs us Q I r ⟨S, τ, g, ds, QD, sr, hg, rp, h, k⟩ => pgs_nil.run pins s σ H vs us Q I r (by
    cases ds with
    | nil => exact ⟨rp, k τ σ H sr Kp.refl h⟩
    | cons d r => exact (show False from h).elim)⟩
theorem dgs_cons {e : Expr} {es : List Expr} {t : DTG} {u : DTGs} (h1 : PG X e (UpG X.K T t)) (h2 : PGs X es (UpGs X.K T u))
    (hs : (assignEach (e :: es) X.env).map (·.2) = assign e X.env :: (assignEach es X.env).map (·.2) := by rfl) : PGs X (e :: es) (UpGs X.K T (gsCons t u)) :=
  ⟨fun pins s σ H vs us Q I r ⟨S, τ, g, ds, QD, sr, hg, rp, h, k⟩ => (pgs_cons h1 h2 hs).run pins s σ H vs us Q I r (by
    cases ds with
    | nil => exact (show False from h).elim
    | cons d ds =>
      obtain ⟨v, vr, e1, r1, r2⟩ := rp
      have sub : ∀ a, S.P a → gset S g a := fun a z => match g, hg with
        | 1, _ => z
        | _ + 2, _ => .inl z
      exact ⟨v, vr, e1, S, τ, g, d, _, sr, r1, h, fun τ1 σ1 H1 s1 k1 q1 => ⟨S, τ1, g, ds, _, s1, hg, Reps.kp k1 sub ds vr r2, q1, fun τ2 σ2 H2 s2 k2 q2 => k τ2 σ2 H2 s2 (k1.trans k2) q2⟩⟩)⟩
theorem dg_tup {es : List Expr} {k1 : Nat} {t : DTGs} {n : Nat} (hc : X.calm = true) (h : PGs X es (UpGs X.K T t))
    (hn : (assignEach es X.env).length = n := by rfl) (hst : (assignEach es X.env).findIdx? (·.1) = none := by rfl) : PG X (.Tuple es k1 pos) (UpG X.K T (gT n t)) :=
  ⟨fun pins s σ H v u Q I r ⟨S, τ, g, d, QD, sr, rp, hw, k⟩ => (pg_tup hc h hn hst).run pins s σ H v u Q I r (by
    cases d with
    | tup ds =>
      obtain ⟨hl, hb, hw⟩ := hw
      obtain ⟨a, vs, e1, e2, rs⟩ := rp
      exact ⟨a, vs, e1, e2, by rw [rs.len]; exact hl, S, τ, _, ds, QD, sr, Nat.le_of_ble_eq_true hb, RepsG.upl rs, hw, k⟩
    | _ => exact (show False from hw).elim)⟩
theorem dg_sub {ie : Expr} {p1 : Pos} {ti : DTE} (hN : X.N[i]? = some x) (hv : Vis X.env.scope x) (hi : PE X ie (UpE X.K T ti)) (hd : (x == ("__debug__" : Str)) = false := by decide) (hcd : (x == ("__classdict__" : Str)) = false := by decide)
    (ha : ∀ v, assign (.Subscript (.Name x p1) ie pos) X.env v = (do
      let ov ← holding [v] (eval (.Name x p1) X.env)
      let iv ← holding [v, ov] (eval ie X.env)
      standAt pos
      holding [v, ov, iv] (setItem ov iv v)
      release [v, ov, iv] []) := by intro _; rfl) : PG X (.Subscript (.Name x p1) ie pos) (UpG X.K T (gSub i ti)) :=
  ⟨fun pins s σ H v u Q I r ⟨S, τ, g, d, QD, sr, rp, hw, k⟩ => (pg_sub (pe_var hN hv hd hcd) hi set_list ha).run pins s σ H v u Q I r (by
    unfold gSub at hw
    split at hw
    · rename_i ds et
      obtain ⟨p, vs, e1, e2, e3, e4, e5, rs⟩ := sr.own i ds et
      refine ⟨.ref p, e1, S, τ, _, sr, hw, fun H2 w sl a r2 q => ?_⟩
      have s2 := sr.aft a
      obtain ⟨p', ws, f1, f2, f3, f4, f5, rs'⟩ := s2.own i ds et
      have ep : p = p' := by
        rw [e1] at f1
        exact V.ref.inj (Option.some.inj (Option.some.inj f1))
      subst ep
      have r2 := r2.g sr
      split at q
      · rename_i n en
        rw [en] at r2
        split at q
        · rename_i j ej
          obtain ⟨q1, q2⟩ := q
          have rd : RepG X.K T S 2 H2 d v := by
            rcases Bool.or_eq_true_iff.mp q1 with z | z
            · match g, z, rp with
              | g + 2, _, rp => exact sr.rep a.kp rp
            · exact Rep.imm d v z (sr.rep a.kp rp)
          obtain ⟨s3, k3⟩ := s2.put et e1 (rs'.set j rd)
          refine ⟨p, ws, n, j, rfl, r2, f2, by rw [rs'.len]; exact ej, k _ _ _ s3 ((a.kp.mono fun c z => sr.bp c z).trans k3) q2⟩
        · exact q.elim
      · exact q.elim
    · exact hw.elim)⟩
end
end DL
/-! DL6: append, clear, +=; for, while; comprehensions. -/
namespace DL
open PySem PySem.Spec PyProof.Rows L2
@[simp] def dApp (i : Nat) (te : DTE) : DTS := fun D τ => match τ[i]? with
  | some (.own ds) => te τ fun sl => (Nat.ble 2 sl.g || sl.d.imm) = true ∧ ds.length < 1000000 ∧ D.nx (τ.set i (.own (ds ++ [sl.d])))
  | _ => False
/-- x.append(y.pop(0)) -/
@[simp] def dAppPop (i j : Nat) : DTS := fun D τ => match τ[i]?, τ[j]? with
  | some (.own ds), some (.own (e :: es)) => i ≠ j ∧ ds.length < 1000000 ∧ D.nx ((τ.set j (.own es)).set i (.own (ds ++ [e])))
  | _, _ => False
@[simp] def dClear (i : Nat) : DTS := fun D τ => match τ[i]? with
  | some (.own ds) => D.nx (τ.set i (.own []))
  | _ => False
@[simp] def dAug (i : Nat) (f : Int → Int → Int) (te : DTE) : DTS := fun D τ => match τ[i]? with
  | some (.v _ (.int a)) => te τ fun sl => match sl.d with
    | .int b => D.nx (τ.set i (.v 2 (.int (f a b))))
    | _ => False
  | _ => False
section
variable {X : Cx} {T : Tab} {e : Expr} {te : DTE} {pos p1 p2 p3 p4 : Pos} {i : Nat} {x : Str}
theorem rd_of {K : PySem.W.Frag} {S : Sit} {H : Hp} {g : Nat} {d : D} {v : V} (q : (Nat.ble 2 g || d.imm) = true) (r : RepG K T S g H d v) : RepG K T S 2 H d v := by
  rcases Bool.or_eq_true_iff.mp q with z | z
  · match g, z, r with
    | g + 2, _, r => exact r
  · exact Rep.imm d v z r
theorem ds_app {st : Stmt} (h : PS X st (tDrop (tBM X.K "list" rAppend (tVar i) (tCons (UpE X.K T te) tNil)))) : PS X st (UpS X.K T ek (dApp i te)) :=
  h.of fun D σ H ⟨S, τ, DD, sr, h, o⟩ => by
    unfold dApp at h
    split at h
    · rename_i ds et
      obtain ⟨p, vs, e1, e2, e3, e4, e5, rs⟩ := sr.own i ds et
      refine ⟨.ref p, e1, .inl ⟨rfl, _, SqL.of e2⟩, S, τ, _, sr, h, fun H2 w sl a r2 q => ?_⟩
      have s2 := sr.aft a
      obtain ⟨q1, q2, q3⟩ := q
      have f2 := a.kp.k p _ e2 e4
      have rd := rd_of q1 (r2.g sr)
      obtain ⟨s3, k3⟩ := s2.put (us := vs ++ [w]) et e1 (Reps.append (sr.reps a.kp rs) (Reps.one rd))
      exact ⟨p, vs, w, rfl, rfl, f2, by rw [rs.len]; exact Nat.lt_of_lt_of_le q2 (lim_le' (Nat.le_refl _)), o.nx S.P _ _ _ s3 q3⟩
    · exact h.elim
theorem ds_clear {st : Stmt} (h : PS X st (tDrop (tBM0 X.K "list" rClear (tVar i)))) : PS X st (UpS X.K T ek (dClear i)) :=
  h.of fun D σ H ⟨S, τ, DD, sr, h, o⟩ => by
    unfold dClear at h
    split at h
    · rename_i ds et
      obtain ⟨p, vs, e1, e2, e3, e4, e5, rs⟩ := sr.own i ds et
      obtain ⟨s3, k3⟩ := sr.put (us := []) (es := []) et e1 rfl
      exact ⟨.ref p, e1, .inl ⟨rfl, _, SqL.of e2⟩, p, vs, rfl, rfl, e2, o.nx S.P _ _ _ s3 h⟩
    · exact h.elim
theorem seq0 (n : Nat) : seqIndex? 0 (n + 1) = some 0 := by
  have h : ixN (n + 1) 0 = some 0 := by unfold ixN; rw [if_pos (by decide), if_pos (by omega)]; rfl
  exact (ixN_seq h).1
theorem ds_appPop {j : Nat} {st : Stmt} (h : PS X st (tDrop (tBM X.K "list" rAppend (tVar i) (tCons (tBM X.K "list" rPopAt (tVar j) (tCons (tC (.int 0)) tNil)) tNil)))) : PS X st (UpS X.K T ek (dAppPop i j)) :=
  h.of fun D σ H ⟨S, τ, DD, sr, h, o⟩ => by
    unfold dAppPop at h
    split at h
    · rename_i ds e1 es eti etj
      obtain ⟨hij, hl, h⟩ := h
      obtain ⟨p, vs, f1, f2, f3, f4, f5, rs⟩ := sr.own i ds eti
      obtain ⟨q, us, g1, g2, g3, g4, g5, rj⟩ := sr.own j _ etj
      obtain ⟨w, ws, ew, r1, r2⟩ := rj
      subst ew
      have npq : p ≠ q := fun z => hij (sr.inj i j ds _ p eti etj f1 (by rw [g1, z]))
      obtain ⟨s3, k3⟩ := sr.put (us := ws) etj g1 r2
      have eti' : (τ.set j (.own es))[i]? = some (.own ds) := by rw [List.getElem?_set_ne (Ne.symm hij)]; exact eti
      have h1 : upd H q (.lst ws) p = some (.lst vs) := by rw [upd_ne npq]; exact f2
      have sub : ∀ a, S.P a → gset S 2 a := fun a z => .inl z
      obtain ⟨s4, k4⟩ := s3.put (us := vs ++ [w]) eti' f1 (Reps.append (Reps.kp k3 sub ds vs rs) (Reps.one (Rep.kp k3 sub _ _ r1)))
      refine ⟨.ref p, f1, .inl ⟨rfl, _, SqL.of f2⟩, .ref q, g1, .inl ⟨rfl, _, SqL.of g2⟩, ?_⟩
      refine ⟨q, w :: ws, 0, 0, w, rfl, rfl, g2, by decide, by decide, seq0 _, rfl, ?_⟩
      exact ⟨p, vs, w, rfl, rfl, h1, by rw [rs.len]; exact Nat.lt_of_lt_of_le hl (lim_le' (Nat.le_refl _)), o.nx S.P _ _ _ s4 h⟩
    · exact h.elim
theorem ds_aug {op : Operator} {f : Int → Int → Int} (hN : X.N.Nodup) (hi : X.N[i]? = some x) (hx : Loc X.env.scope x) (he : PE X e (UpE X.K T te)) (ho : PIp X op (ipI f)) (hf : X.fn x = true ∨ X.env.scope.names.lookup x = some .local := by first | exact .inl rfl | exact .inr rfl | assumption) :
    PS X (.AugAssign (.Name x p1) op e pos) (UpS X.K T ek (dAug i f te)) :=
  (ps_aug hN hi hx he ho hf).of fun D σ H ⟨S, τ, DD, sr, h, o⟩ => by
    unfold dAug at h
    split at h
    · rename_i g a et
      obtain ⟨_, v, e1, r⟩ := sr.val i g _ et
      refine ⟨v, e1, S, τ, _, sr, h, fun H1 w sl a1 r1 q => ?_⟩
      have r1 := r1.g sr
      split at q
      · rename_i b eb
        rw [eb] at r1
        exact ⟨a, b, r, r1, o.nx S.P _ _ H1 ((sr.aft a1).setV (g := 2) (d := .int (f a b)) (by decide) rfl) q⟩
      · exact q.elim
    · exact h.elim
end

/-! ### loops -/
@[simp] def forRec (g : Nat) (tg : DTG) (tb : DTS) (E : DEnds) : List D → DSt → Prop
  | [], τ => E.nx τ
  | x :: xs, τ => tg (up g x) x τ fun τ1 => tb { E with nx := forRec g tg tb E xs, ct := forRec g tg tb E xs, bk := E.nx } τ1
@[simp] def dFor (te : DTE) (tg : DTG) (tb : DTS) : DTS := fun E τ => te τ fun sl => match elems sl.d with
  | some ds => Nat.ble 1 (up sl.g sl.d) = true ∧ forRec (up sl.g sl.d) tg tb E ds τ
  | none => False
@[simp] def rangeL (lo : Int) : Nat → List D
  | 0 => []
  | n + 1 => .int lo :: rangeL (lo + 1) n
@[simp] def dForR (ta : DTA) (tg : DTG) (tb : DTS) : DTS := fun E τ => ta τ fun _ ds => match ds with
  | [.int j] => (-(2 ^ 62) ≤ j ∧ j < 2 ^ 62) ∧ forRec 2 tg tb E (rangeL 0 j.toNat) τ
  | _ => False
@[simp] def dForR2 (ta : DTA) (tg : DTG) (tb : DTS) : DTS := fun E τ => ta τ fun _ ds => match ds with
  | [.int i, .int j] => (-(2 ^ 62) ≤ i ∧ i < 2 ^ 62 ∧ -(2 ^ 62) ≤ j ∧ j < 2 ^ 62) ∧ forRec 2 tg tb E (rangeL i (j - i).toNat) τ
  | _ => False
def iSeq (K : PySem.W.Frag) (tl : TE) : TI := fun σ H R => tl σ H fun x H1 => ∃ a, x = .ref a ∧ (((∃ xs, SqL K H1 a xs) ∧ R (Itl K a) H1) ∨ ((∃ xs, SqT K H1 a xs) ∧ R (Itt K a) H1))
section
variable {X : Cx} {tg : Expr}
theorem pi_seq {l : Expr} {tl : TE} (hl : PE X l tl) : PI X tg l (iSeq X.K tl) := by
  refine ⟨fun pins s σ H R I h => ?_⟩
  refine thn (hl.run pins s σ H _ I h) fun v s1 ⟨x, H1, I1, r1, q1⟩ => ?_
  obtain ⟨a, e, q⟩ := q1
  subst e
  cases r1
  rcases q with ⟨⟨xs, hq⟩, q⟩ | ⟨⟨xs, hq⟩, q⟩
  · obtain ⟨its, rv, p, hz⟩ := I1.list hq
    refine wpAny_pyIter_list p.isList ?_
    refine ⟨s1.heap.objs.size, [s1.heap.objs.size], _, _, H1, rfl, I1.kept (t' := s1.toks) fun b o e => Heap.get?_push_of_some _ e, turn_list a _, ⟨_, Heap.get?_push_size _ rfl, rfl, rfl⟩, fun b hb => ?_, q⟩
    have e : b = s1.heap.objs.size := by simpa using hb
    subst e
    exact I1.fpOk (Nat.le_refl _) (I1.hok.fresh (Nat.le_refl _))
  · obtain ⟨its, rv, p, hz⟩ := I1.tuple hq
    refine wpAny_pyIter_tuple (show s1.heap.IsTuple a its.toArray from p) ?_
    refine ⟨s1.heap.objs.size, [s1.heap.objs.size], _, _, H1, rfl, I1.kept (t' := s1.toks) fun b o e => Heap.get?_push_of_some _ e, turn_tuple a _, ⟨_, Heap.get?_push_size _ rfl, rfl, rfl⟩, fun b hb => ?_, q⟩
    have e : b = s1.heap.objs.size := by simpa using hb
    subst e
    exact I1.fpOk (Nat.le_refl _) (I1.hok.fresh (Nat.le_refl _))
end
section
variable {K : PySem.W.Frag} {T : Tab} {S : Sit} {τ : DSt} {σ : L2.St} {H H' : Hp}
theorem SR.gho (sr : SR K T S τ σ H) {g : Nat} {d : D} {v : V} (hg : 1 ≤ g) (r : RepG K T S g H d v) : SR K T { S with G := (g, d, v) :: S.G } τ σ H :=
  ⟨sr.len, sr.bp, sr.al, sr.ml, sr.kp, sr.xp, sr.fr, sr.bl, sr.bag, sr.lp, sr.val, sr.own, sr.ins, fun x hx => by
    rcases List.mem_cons.mp hx with e | hx
    · rw [e]; exact ⟨hg, r⟩
    · exact sr.gh x hx, sr.inj⟩
theorem SR.ungh {g : Nat} {d : D} {v : V} {G : List (Nat × D × V)} (sr : SR K T { S with G := (g, d, v) :: G } τ σ H) : SR K T { S with G := G } τ σ H :=
  ⟨sr.len, sr.bp, sr.al, sr.ml, sr.kp, sr.xp, sr.fr, sr.bl, sr.bag, sr.lp, sr.val, sr.own, sr.ins, fun x hx => sr.gh x (List.mem_cons_of_mem _ hx), sr.inj⟩
theorem RepG.pp {P' : Addr → Prop} {G' : List (Nat × D × V)} {g : Nat} {d : D} {v : V} (h : RepG K T { S with P := P', G := G' } g H d v) : RepG K T { S with P := P' } g H d v := by
  match g, h with
  | 0, h => exact h
  | 1, h => exact h
  | g + 2, h => exact h
end
section
variable {X : Cx} {T : Tab} {iter tg : Expr} {body : List Stmt} {te : DTE} {tgd : DTG} {tb : DTS} {pos : Pos}
/-- the turns of a for, over whatever yields the data ds while C stands -/
theorem for_core {K : PySem.W.Frag} {S : Sit} {J : It} {ds : List D} {g : Nat} {C : (Addr → Prop) → Hp → Prop} {DD : DEnds} {E : Ends} {H1 : Hp} {τ : DSt} {σ : L2.St} {G : List (Nat × D × V)}
    (hdrop : ∀ P' τ' σ' H', SR K T { S with P := P', G := G } τ' σ' H' → SR K T { S with P := P' } τ' σ' H') (hC : ∀ P' τ' σ' H', SR K T { S with P := P', G := G } τ' σ' H' → C P' H')
    (hgo : ∀ P' i H', i < ds.length → C P' H' → J.go i H') (hy : ∀ P' i H' x H'', C P' H' → J.yld i H' x H'' → (Kp (fun _ => False) H' H'' ∧ Tk H' H'') ∧ ∀ d, ds[i]? = some d → RepG K T { S with P := P' } g H'' d x) (hstop : ∀ P' H', C P' H' → J.stop ds.length H')
    (sr : SR K T { S with G := G } τ σ H1) (q : forRec g tgd tb DD ds τ) (o : Out K T ek S DD E) :
    ∃ W : Nat → Nat → L2.St → Hp → Prop, (∃ m, W 0 m σ H1) ∧ ∀ i m σ H, W i m σ H →
      (J.stop i H ∧ E.nx σ H) ∨ (J.go i H ∧ ∃ N : L2.St → Hp → Prop, (∀ σ' H', N σ' H' → ∃ m', m' < m ∧ W (i + 1) m' σ' H') ∧ ∀ x H', J.yld i H x H' → UpG K T tgd x σ H' fun σ2 H2 => UpS K T ek tb { E with nx := N, ct := N, bk := E.nx } σ2 H2) := by
  refine ⟨fun i m σ' H' => m = ds.length - i ∧ i ≤ ds.length ∧ ∃ P' τ', SR K T { S with P := P', G := G } τ' σ' H' ∧ forRec g tgd tb DD (ds.drop i) τ', ⟨ds.length, rfl, Nat.zero_le _, S.P, τ, sr, q⟩, ?_⟩
  rintro i m σ' H' ⟨rfl, hi, P', τ', s', q'⟩
  by_cases hlt : i < ds.length
  · rw [List.drop_eq_getElem_cons hlt] at q'
    refine .inr ⟨hgo P' i H' hlt (hC _ _ _ _ s'), fun σ2 H2 => ∃ P2 τ2, SR K T { S with P := P2, G := G } τ2 σ2 H2 ∧ forRec g tgd tb DD (ds.drop (i + 1)) τ2, fun σ2 H2 ⟨P2, τ2, s2, q2⟩ => ⟨ds.length - (i + 1), by omega, rfl, hlt, P2, τ2, s2, q2⟩, fun x H2 y => ?_⟩
    obtain ⟨⟨kk, tk⟩, hr⟩ := hy P' i H' x H2 (hC _ _ _ _ s') y
    have hr := hr ds[i] (List.getElem?_eq_getElem hlt)
    have s2' := s'.aft ⟨kk.mono fun _ z => z.elim, s'.bag.kp0 kk tk⟩
    have hr2 : RepG K T { S with P := P', G := G } (up g ds[i]) H2 ds[i] x := by
      refine RepG.up (S := { S with P := P', G := G }) ?_
      match g, hr with
      | 0, h => exact h
      | 1, h => exact h
      | g + 2, h => exact h
    refine ⟨{ S with P := P', G := G }, τ', _, ds[i], _, s2', hr2, q', fun τ3 σ3 H3 s3 _ q3 => ⟨{ S with P := P', G := G }, τ3, _, s3, q3, ⟨fun P4 τ4 σ4 H4 s4 q4 => ⟨P4, τ4, s4, q4⟩, fun P4 τ4 σ4 H4 s4 q4 => o.nx P4 τ4 σ4 H4 (hdrop _ _ _ _ s4) q4, fun P4 τ4 σ4 H4 s4 q4 => ⟨P4, τ4, s4, q4⟩, fun H4 v sl a b => o.rt H4 v sl a b, fun P4 τ4 σ4 H4 d v s4 sc q4 => o.rb P4 τ4 σ4 H4 d v (hdrop _ _ _ _ s4) sc q4, o.er⟩⟩⟩
  · have e : i = ds.length := by omega
    subst e
    rw [List.drop_length] at q'
    exact .inl ⟨hstop P' H' (hC _ _ _ _ s'), o.nx P' τ' σ' H' (hdrop _ _ _ _ s') q'⟩
theorem ds_for (hp : PassesOwn (model X.prog X.w) X.A X.env X.xe) (hc : X.calm = true) (hi : PE X iter (UpE X.K T te)) (hg : PG X tg (UpG X.K T tgd)) (hb : PSs X body (UpS X.K T ek tb))
    (hs : ∀ x, foldedSetIterable iter X.env x = pure x := by intro _; rfl) : PS X (.For tg iter body [] pos) (UpS X.K T ek (dFor te tgd tb)) :=
  (ps_for hp hc (pi_seq hi) hg hb hs).of fun E σ H ⟨S, τ, DD, sr, h, o⟩ => ⟨S, τ, _, sr, h, fun H1 v sl a r q => by
    have s1 := sr.aft a
    have rg := RepG.up (r.g sr)
    generalize hgg : up sl.g sl.d = gg at rg q
    have hcl : ∀ {P' : Addr → Prop} {τ' : DSt} {σ' : L2.St} {H' : Hp}, SR X.K T { S with P := P', G := (gg, sl.d, v) :: S.G } τ' σ' H' → RepG X.K T { S with P := P' } gg H' sl.d v := fun {P' τ' σ' H'} z => by
      have w := (z.gh _ List.mem_cons_self).2
      match gg, w with
      | 0, h => exact h
      | 1, h => exact h
      | g + 2, h => exact h
    have hdr : ∀ P' τ' σ' H', SR X.K T { S with P := P', G := (gg, sl.d, v) :: S.G } τ' σ' H' → SR X.K T { S with P := P' } τ' σ' H' := fun P' τ' σ' H' z => SR.ungh (S := { S with P := P' }) z
    cases sd : sl.d with
    | lst es =>
      rw [sd] at q rg hcl hdr
      obtain ⟨hg1, q⟩ := q
      have s2 := s1.gho (Nat.le_of_ble_eq_true hg1) rg
      obtain ⟨p, vs, rfl, e1, e2, rs⟩ := rg
      refine ⟨p, rfl, .inl ⟨⟨vs, SqL.of e1⟩, for_core (C := fun P' H' => RepG X.K T { S with P := P' } gg H' (.lst es) (.ref p)) hdr (fun P' τ' σ' H' z => hcl z) (fun P' i H' hi ⟨p2, us, e, f1, f2, f3⟩ => ?_) (fun P' i H' x H'' ⟨p2, us, e, f1, f2, f3⟩ ⟨y1, y2⟩ => ⟨(by rw [y1]; exact ⟨Kp.refl, Tk.refl⟩), fun d hd => ?_⟩) (fun P' H' ⟨p2, us, e, f1, f2, f3⟩ => ?_) s2 q o⟩⟩
      · cases e
        obtain ⟨w, ew, _⟩ := f3.get (List.getElem?_eq_getElem hi)
        exact ⟨us, w, SqL.of f1, ew⟩
      · cases e
        obtain ⟨w, ew, rw'⟩ := f3.get hd
        have := y2 us (SqL.of f1)
        rw [ew] at this
        cases this
        rw [y1]
        exact rw'
      · cases e
        exact ⟨us, SqL.of f1, by rw [f3.len]; exact Nat.le_refl _⟩
    | tup es =>
      rw [sd] at q rg hcl hdr
      obtain ⟨hg1, q⟩ := q
      have s2 := s1.gho (Nat.le_of_ble_eq_true hg1) rg
      obtain ⟨p, vs, rfl, e1, rs⟩ := rg
      refine ⟨p, rfl, .inr ⟨⟨vs, e1⟩, for_core (C := fun P' H' => RepG X.K T { S with P := P' } gg H' (.tup es) (.ref p)) hdr (fun P' τ' σ' H' z => hcl z) (fun P' i H' hi ⟨p2, us, e, f1, f3⟩ => ?_) (fun P' i H' x H'' ⟨p2, us, e, f1, f3⟩ ⟨y1, y2⟩ => ⟨(by rw [y1]; exact ⟨Kp.refl, Tk.refl⟩), fun d hd => ?_⟩) (fun P' H' ⟨p2, us, e, f1, f3⟩ => ?_) s2 q o⟩⟩
      · cases e
        obtain ⟨w, ew, _⟩ := f3.get (List.getElem?_eq_getElem hi)
        exact ⟨us, w, f1, ew⟩
      · cases e
        obtain ⟨w, ew, rw'⟩ := f3.get hd
        have := y2 us f1
        rw [ew] at this
        cases this
        rw [y1]
        exact rw'
      · cases e
        exact ⟨us, f1, by rw [f3.len]; exact Nat.le_refl _⟩
    | _ => rw [sd] at q; exact (show False from q).elim⟩
end
end DL
/-! DL7: for over a range, while, comprehensions. -/
namespace DL
open PySem PySem.Spec PyProof.Rows L2
theorem rangeL_len : ∀ (n : Nat) (lo : Int), (rangeL lo n).length = n
  | 0, _ => rfl
  | n + 1, lo => by rw [rangeL, List.length_cons, rangeL_len n]
theorem rangeL_get : ∀ (n : Nat) (lo : Int) (i : Nat) (d : D), (rangeL lo n)[i]? = some d → d = .int (lo + i)
  | 0, _, _, _, h => by simp [rangeL] at h
  | n + 1, lo, 0, d, h => by
    simp [rangeL] at h
    rw [← h]; simp
  | n + 1, lo, i + 1, d, h => by
    rw [rangeL, List.getElem?_cons_succ] at h
    rw [rangeL_get n (lo + 1) i d h]
    congr 1
    omega
section
variable {X : Cx} {T : Tab} {tg a b : Expr} {body : List Stmt} {ta : DTA} {tgd : DTG} {tb : DTS} {pos p1 p2 : Pos}
theorem range_core {S : Sit} {lo : Int} {n : Nat} {DD : DEnds} {E : Ends} {H1 : Hp} {τ : DSt} {σ : L2.St} (sr : SR X.K T S τ σ H1) (q : forRec 2 tgd tb DD (rangeL lo n) τ) (o : Out X.K T ek S DD E) :
    ∃ W : Nat → Nat → L2.St → Hp → Prop, (∃ m, W 0 m σ H1) ∧ ∀ i m σ H, W i m σ H →
      ((Itr lo n).stop i H ∧ E.nx σ H) ∨ ((Itr lo n).go i H ∧ ∃ N : L2.St → Hp → Prop, (∀ σ' H', N σ' H' → ∃ m', m' < m ∧ W (i + 1) m' σ' H') ∧ ∀ x H', (Itr lo n).yld i H x H' → UpG X.K T tgd x σ H' fun σ2 H2 => UpS X.K T ek tb { E with nx := N, ct := N, bk := E.nx } σ2 H2) :=
  for_core (G := S.G) (C := fun _ _ => True) (fun _ _ _ _ z => z) (fun _ _ _ _ _ => trivial) (fun _ i _ hi _ => by rw [rangeL_len] at hi; exact hi) (fun _ i _ x _ _ y => ⟨(by rw [y.1]; exact ⟨Kp.refl, Tk.refl⟩), fun d hd => by
    rw [rangeL_get n lo i d hd, y.2]
    exact rfl⟩) (fun _ _ _ => by
    show n ≤ (rangeL lo n).length
    rw [rangeL_len]; exact Nat.le_refl _) sr q o
theorem ds_for1 (hp : PassesOwn (model X.prog X.w) X.A X.env X.xe) (hc : X.calm = true) (hg0 : Gl X "range") (hm : X.mg "range" = none) (ha : PA X [a] (UpA X.K T ta)) (hg : PG X tg (UpG X.K T tgd)) (hb : PSs X body (UpS X.K T ek tb))
    (hs : starEach [a] X.env = [(false, eval a X.env)] := by rfl) (hf : ∀ x, foldedSetIterable (.Call (.Name "range" p1) [a] [] p2) X.env x = pure x := by intro _; rfl) : PS X (.For tg (.Call (.Name "range" p1) [a] [] p2) body [] pos) (UpS X.K T ek (dForR ta tgd tb)) :=
  (ps_for hp hc (pi_range1 hg0 hm ha hs) hg hb hf).of fun E σ H ⟨S, τ, DD, sr, h, o⟩ => ⟨S, τ, _, sr, h, fun H1 vs g ds a r q => by
    split at q
    · rename_i j
      obtain ⟨v, rfl, r0⟩ := r.one'
      obtain ⟨⟨q1, q2⟩, q⟩ := q
      exact ⟨j, by rw [show v = V.int j from r0], q1, q2, range_core (sr.aft a) q o⟩
    · exact q.elim⟩
theorem ds_for2 (hp : PassesOwn (model X.prog X.w) X.A X.env X.xe) (hc : X.calm = true) (hg0 : Gl X "range") (hm : X.mg "range" = none) (ha : PA X [a, b] (UpA X.K T ta)) (hg : PG X tg (UpG X.K T tgd)) (hb : PSs X body (UpS X.K T ek tb))
    (hs : starEach [a, b] X.env = [(false, eval a X.env), (false, eval b X.env)] := by rfl) (hs2 : starEach [b] X.env = [(false, eval b X.env)] := by rfl) (hf : ∀ x, foldedSetIterable (.Call (.Name "range" p1) [a, b] [] p2) X.env x = pure x := by intro _; rfl) :
    PS X (.For tg (.Call (.Name "range" p1) [a, b] [] p2) body [] pos) (UpS X.K T ek (dForR2 ta tgd tb)) :=
  (ps_for hp hc (pi_range2 hg0 hm ha hs hs2) hg hb hf).of fun E σ H ⟨S, τ, DD, sr, h, o⟩ => ⟨S, τ, _, sr, h, fun H1 vs g ds a r q => by
    split at q
    · rename_i i j
      obtain ⟨v, u, rfl, r1, r2⟩ := r.two
      obtain ⟨q1, q⟩ := q
      exact ⟨i, j, by rw [show v = V.int i from r1, show u = V.int j from r2], q1, range_core (sr.aft a) q o⟩
    · exact q.elim⟩
def dWhile (c : DTT) (tb : DTS) : DTS := fun E τ => ∃ I : Nat → DSt → Prop, (∃ m, I m τ) ∧ ∀ m τ, I m τ → c τ fun b => if b = true then tb { E with nx := fun τ' => ∃ m', m' < m ∧ I m' τ', ct := fun τ' => ∃ m', m' < m ∧ I m' τ', bk := E.nx } τ else E.nx τ
theorem ds_while {c : Expr} {tc : DTT} (hp : PassesOwn (model X.prog X.w) X.A X.env X.xe) (hc : PT X c (UpT X.K T tc)) (hb : PSs X body (UpS X.K T ek tb)) : PS X (.While c body [] pos) (UpS X.K T ek (dWhile tc tb)) :=
  (ps_while hp hc hb).of fun E σ H ⟨S, τ, DD, sr, ⟨I, ⟨m, hm⟩, h⟩, o⟩ =>
    ⟨fun m σ' H' => ∃ P' τ', SR X.K T { S with P := P' } τ' σ' H' ∧ I m τ', ⟨m, S.P, τ, sr, hm⟩, fun m σ' H' ⟨P', τ', s', hI⟩ => ⟨{ S with P := P' }, τ', _, s', h m τ' hI, fun H1 b a q => by
      cases b with
      | true => exact ⟨fun σ2 H2 => ∃ m' P2 τ2, m' < m ∧ SR X.K T { S with P := P2 } τ2 σ2 H2 ∧ I m' τ2, fun σ2 H2 ⟨m', P2, τ2, hl, s2, i2⟩ => ⟨m', hl, P2, τ2, s2, i2⟩, { S with P := P' }, τ', _, s'.aft a, q,
        ⟨fun P2 τ2 σ2 H2 s2 ⟨m', hl, i2⟩ => ⟨m', P2, τ2, hl, s2, i2⟩, fun P2 => o.nx P2, fun P2 τ2 σ2 H2 s2 ⟨m', hl, i2⟩ => ⟨m', P2, τ2, hl, s2, i2⟩, fun H2 v sl a b => o.rt H2 v sl a b, fun P2 => o.rb P2, o.er⟩⟩
      | false => exact o.nx P' τ' σ' H1 (s'.aft a) q⟩⟩
end

/-! ### comprehensions -/
@[simp] def wipeD (τ : DSt) : List Nat → DSt
  | [] => τ
  | v :: vs => (wipeD τ vs).set v .un
@[simp] def compRec (g : Nat) (tg : DTG) (tt : DTT) (te : DTE) (τ : DSt) (Q : Sl → Prop) : List D → List D → Prop
  | [], acc => Q (.own acc)
  | x :: xs, acc => tg (up g x) x τ fun τ1 => tt τ1 fun b => if b = true then te τ1 fun sl => (Nat.ble 2 sl.g || sl.d.imm) = true ∧ acc.length < 1000000 ∧ compRec g tg tt te τ Q xs (acc ++ [sl.d]) else compRec g tg tt te τ Q xs acc
@[simp] def dLc (ts : DTE) (tg : DTG) (tt : DTT) (te : DTE) (vs : List Nat) : DTE := fun τ Q => ts τ fun sl => match elems sl.d with
  | some ds => compRec sl.g tg tt te (wipeD τ vs) Q ds []
  | none => False
@[simp] def tYesD : DTT := fun _ Q => Q true
/-- a target of a comprehension: its own names alone -/
def UpGw (K : PySem.W.Frag) (T : Tab) (vs : List Nat) (t : DTG) : TG := fun v σ H Q => ∃ (S : Sit) (τ : DSt) (g : Nat) (d : D) (QD : DSt → Prop), SR K T S τ σ H ∧ RepG K T S g H d v ∧ t g d τ QD ∧ ∀ τ' σ', SR K T S τ' σ' H → wipe σ' vs = wipe σ vs → QD τ' → Q σ' H
def UpGsw (K : PySem.W.Frag) (T : Tab) (vs : List Nat) (t : DTGs) : TGs := fun us σ H Q => ∃ (S : Sit) (τ : DSt) (g : Nat) (ds : List D) (QD : DSt → Prop), SR K T S τ σ H ∧ RepsG K T S g H ds us ∧ t g ds τ QD ∧ ∀ τ' σ', SR K T S τ' σ' H → wipe σ' vs = wipe σ vs → QD τ' → Q σ' H
theorem wipe_set {i : Nat} {x : Option V} : ∀ {vs : List Nat} {σ : L2.St}, i ∈ vs → wipe (σ.set i x) vs = wipe σ vs
  | [], _, h => by cases h
  | v :: vs, σ, h => by
    show (wipe (σ.set i x) vs).set v none = (wipe σ vs).set v none
    rcases List.mem_cons.mp h with e | h
    · subst e
      have key : ∀ (us : List Nat), (wipe (σ.set i x) us).set i none = (wipe σ us).set i none := by
        intro us
        induction us with
        | nil => show (σ.set i x).set i none = σ.set i none; rw [List.set_set]
        | cons u us ih =>
          show ((wipe (σ.set i x) us).set u none).set i none = ((wipe σ us).set u none).set i none
          by_cases hu : u = i
          · subst hu; rw [List.set_set, List.set_set]; exact ih
          · rw [List.set_comm _ _ hu, ih, List.set_comm _ _ hu]
      exact key vs
    · rw [wipe_set h]
theorem wipe_wipe (σ : L2.St) (vs : List Nat) : wipe (wipe σ vs) vs = wipe σ vs := by
  have key : ∀ (us : List Nat), (∀ u ∈ us, u ∈ vs) → wipe (wipe σ us) vs = wipe σ vs := by
    intro us
    induction us with
    | nil => intro _; rfl
    | cons u us ih =>
      intro h
      show wipe ((wipe σ us).set u none) vs = _
      rw [wipe_set (h u List.mem_cons_self)]
      exact ih fun w hw => h w (List.mem_cons_of_mem _ hw)
  exact key vs fun _ h => h
section
variable {K : PySem.W.Frag} {T : Tab} {S : Sit} {τ : DSt} {σ : L2.St} {H H' : Hp}
theorem SR.forget (sr : SR K T S τ σ H) (i : Nat) : SR K T S (τ.set i .un) (σ.set i none) H := by
  have ne : ∀ {j : Nat} {s : Sl}, s ≠ .un → (τ.set i .un)[j]? = some s → i ≠ j ∧ τ[j]? = some s := fun {j s} hs e => by
    by_cases hj : i = j
    · subst hj
      exact absurd (set_at e).2 hs
    · rw [List.getElem?_set_ne hj] at e
      exact ⟨hj, e⟩
  refine ⟨by rw [List.length_set, List.length_set]; exact sr.len, sr.bp, sr.al, sr.ml, sr.kp, sr.xp, sr.fr, sr.bl, sr.bag, sr.lp, fun j g d e => ?_, fun j ds e => ?_, fun j c ds e => ?_, sr.gh, fun j k ds es p e1 e2 e3 e4 => ?_⟩
  · obtain ⟨hj, e⟩ := ne (by intro z; cases z) e
    obtain ⟨h1, v, h2, h3⟩ := sr.val j g d e
    exact ⟨h1, v, by rw [List.getElem?_set_ne hj]; exact h2, h3⟩
  · obtain ⟨hj, e⟩ := ne (by intro z; cases z) e
    obtain ⟨p, vs, h1, h2⟩ := sr.own j ds e
    exact ⟨p, vs, by rw [List.getElem?_set_ne hj]; exact h1, h2⟩
  · obtain ⟨hj, e⟩ := ne (by intro z; cases z) e
    obtain ⟨z, p, dx, vs, h1, h2⟩ := sr.ins j c ds e
    exact ⟨z, p, dx, vs, by rw [List.getElem?_set_ne hj]; exact h1, h2⟩
  · obtain ⟨hj, e1⟩ := ne (by intro z; cases z) e1
    obtain ⟨hk, e2⟩ := ne (by intro z; cases z) e2
    rw [List.getElem?_set_ne hj] at e3
    rw [List.getElem?_set_ne hk] at e4
    exact sr.inj j k ds es p e1 e2 e3 e4
theorem SR.wiped (sr : SR K T S τ σ H) : ∀ vs : List Nat, SR K T S (wipeD τ vs) (wipe σ vs) H
  | [] => sr
  | v :: vs => (sr.wiped vs).forget v
/-- a new list that no slot holds -/
theorem SR.addP {p : Addr} {o : HO} (sr : SR K T S τ σ H) (hp : H p = none) (ho : noT o := by intro ps z; cases z) : SR K T { S with P := fun a => S.P a ∨ a = p } τ σ (upd H p o) := by
  have np : ¬ S.P p := sr.newP (nl hp)
  have nb : S.B ≠ some p := fun z => np (sr.bp p z)
  have a := sr.laid (o := o) hp
  have s1 := sr.aft a
  have sub : ∀ g c, gset { S with P := fun a => S.P a ∨ a = p } g c → gset S g c ∨ c = p := fun g c z => match g, z with
    | 0, z => .inl z
    | 1, z => z
    | _ + 2, z => Or.elim z (fun z => Or.elim z (fun z => .inl (.inl z)) .inr) fun z => .inl (.inr z)
  have gg : ∀ (g : Nat) (d : D) (v : V), RepG K T S g H d v → Rep K T S.B (gset { S with P := fun a => S.P a ∨ a = p } g) (upd H p o) d v := fun g d v q =>
    Rep.anti (sub g) d v (Rep.kp a.kp (fun c z => .inl (sr.gsub g c z)) d v (Rep.new (nl hp) d v q))
  have ggs : ∀ (ds : List D) (vs : List V), RepsG K T S 2 H ds vs → Reps K T S.B (gset { S with P := fun a => S.P a ∨ a = p } 2) (upd H p o) ds vs := fun ds vs q =>
    Reps.anti (sub 2) ds vs (Reps.kp a.kp (fun c z => .inl (sr.gsub 2 c z)) ds vs (Reps.new (nl hp) ds vs q))
  refine ⟨sr.len, fun c z => .inl (sr.bp c z), fun c z => ?_, sr.ml, s1.kp, fun c z => ⟨.inl (sr.xp c z).1, (sr.xp c z).2⟩, fun c z q q' => ?_, sr.bl, a.bag, fun b e z => ?_, fun j g d e => ?_, fun j es e => ?_, fun j c es e => ?_, fun x hx => ⟨(sr.gh x hx).1, gg _ _ _ (sr.gh x hx).2⟩, sr.inj⟩
  · rcases z with z | z
    · exact s1.al c z
    · rw [z]; exact Lv.of upd_same ho
  · rcases z with z | z
    · exact sr.fr c z q q'
    · rw [z]; exact sr.new0 (nl hp)
  · rcases z with z | z
    · exact sr.lp b e z
    · obtain ⟨_, ns, _, _, _, _, _, h2, _⟩ := sr.bag.bg b e
      rw [z, hp] at h2; cases h2
  · obtain ⟨h1, v, h2, h3⟩ := sr.val j g d e
    exact ⟨h1, v, h2, gg g d v h3⟩
  · obtain ⟨q, ws, e1, e2, e3, e4, e5, h⟩ := sr.own j es e
    exact ⟨q, ws, e1, a.kp.k q _ e2 e4, .inl e3, e4, e5, ggs es ws h⟩
  · obtain ⟨z, q, dx, ws, e1, e2, e3, h⟩ := sr.ins j c es e
    exact ⟨z, q, dx, ws, e1, a.kp.k q _ e2 (sr.xp q e3).2 insO_noT, e3, ggs es ws h⟩
/-- a list that no slot holds is changed -/
theorem SR.wr {p : Addr} {vs us : List V} (sr : SR K T S τ σ H) (e3 : S.P p) (e4 : S.B ≠ some p) (e5 : S.X ≠ some p) (e2 : H p = some (.lst vs)) (no : ∀ (i : Nat) (ds : List D), τ[i]? = some (.own ds) → σ[i]? ≠ some (some (.ref p))) :
    SR K T S τ σ (upd H p (.lst us)) ∧ Kp S.P H (upd H p (.lst us)) := by
  have k : Kp S.P H (upd H p (.lst us)) := Kp.write e3 e2
  have h0 : Nv S.H0 p := sr.fr p e3 e4 e5
  have sub : ∀ g, 1 ≤ g → ∀ a, S.P a → gset S g a := fun g hg a z => match g, hg with
    | 1, _ => z
    | _ + 2, _ => .inl z
  refine ⟨⟨sr.len, sr.bp, fun a h => k.s a (sr.al a h), sr.ml, ⟨fun a o h n tt => ?_, fun a xs h => k.t a xs (sr.kp.t a xs h), fun a o u h => k.z a o u (sr.kp.z a o u h), fun a h => k.s a (sr.kp.s a h)⟩, sr.xp, sr.fr, sr.bl, ?_, sr.lp, fun j g d q => ?_, fun j fs q => ?_, fun j c fs q => ?_, fun x hx => ⟨(sr.gh x hx).1, Rep.kp k (sub x.1 (sr.gh x hx).1) _ _ (sr.gh x hx).2⟩, sr.inj⟩, k⟩
  · have ne : a ≠ p := fun z => h0 (Lv.of (z ▸ h) tt)
    rw [upd_ne ne]
    exact sr.kp.k0 a o h n tt
  · refine sr.bag.kp (N := fun a => a = p) (Kp.write rfl e2) (Tk.write e2 (fun _ z => by cases z) fun _ z => by cases z) fun b hb => ⟨fun z => e4 (z ▸ hb), fun z => ?_⟩
    have z : S.L.a = p := z
    exact sr.lp b hb (by rw [z]; exact e3)
  · obtain ⟨hg, v, q1, h⟩ := sr.val j g d q
    exact ⟨hg, v, q1, Rep.kp k (sub g hg) d v h⟩
  · obtain ⟨p2, ws, q1, q2, q3, q4, q5, h⟩ := sr.own j fs q
    have ne : p2 ≠ p := fun z => no j fs q (by rw [q1, z])
    exact ⟨p2, ws, q1, by rw [upd_ne ne]; exact q2, q3, q4, q5, Reps.kp k (sub 2 (by decide)) fs ws h⟩
  · obtain ⟨z, x, dx, ws, q1, q2, q3, h⟩ := sr.ins j c fs q
    exact ⟨z, x, dx, ws, q1, by rw [upd_ne fun z => e5 (by rw [← z]; exact q3)]; exact q2, q3, Reps.kp k (sub 2 (by decide)) fs ws h⟩
end
section
variable {X : Cx} {T : Tab} {pos : Pos} {i : Nat} {x : Str} {vs : List Nat}
theorem dgw_name (hm : i ∈ vs) (hN : X.N.Nodup) (hi : X.N[i]? = some x) (hx : Loc X.env.scope x) (hf : X.fn x = true ∨ X.env.scope.names.lookup x = some .local := by first | exact .inl rfl | exact .inr rfl | assumption) : PG X (.Name x pos) (UpGw X.K T vs (gN i)) :=
  ⟨fun pins s σ H v u Q I r ⟨S, τ, g, d, QD, sr, rp, h, k⟩ => (pg_name hN hi hx hf).run pins s σ H v u Q I r (k _ _ (sr.setV (Nat.le_of_ble_eq_true h.1) (RepG.up rp)) (wipe_set hm) h.2)⟩
theorem dgsw_nil : PGs X [] (UpGsw X.K T vs gsNil) :=
  ⟨fun pins s σ H us u Q I r ⟨S, τ, g, ds, QD, sr, rp, h, k⟩ => pgs_nil.run pins s σ H us u Q I r (by
    cases ds with
    | nil => exact ⟨rp, k τ σ sr rfl h⟩
    | cons d r => exact (show False from h).elim)⟩
theorem dgsw_cons {e : Expr} {es : List Expr} {t : DTG} {u : DTGs} (h1 : PG X e (UpGw X.K T vs t)) (h2 : PGs X es (UpGsw X.K T vs u))
    (hs : (assignEach (e :: es) X.env).map (·.2) = assign e X.env :: (assignEach es X.env).map (·.2) := by rfl) : PGs X (e :: es) (UpGsw X.K T vs (gsCons t u)) :=
  ⟨fun pins s σ H us u Q I r ⟨S, τ, g, ds, QD, sr, rp, h, k⟩ => (pgs_cons h1 h2 hs).run pins s σ H us u Q I r (by
    cases ds with
    | nil => exact (show False from h).elim
    | cons d ds =>
      obtain ⟨v, vr, e1, r1, r2⟩ := rp
      exact ⟨v, vr, e1, S, τ, g, d, _, sr, r1, h, fun τ1 σ1 s1 w1 q1 => ⟨S, τ1, g, ds, _, s1, r2, q1, fun τ2 σ2 s2 w2 q2 => k τ2 σ2 s2 (w2.trans w1) q2⟩⟩)⟩
theorem dgw_tup {es : List Expr} {k1 : Nat} {t : DTGs} {n : Nat} (hc : X.calm = true) (h : PGs X es (UpGsw X.K T vs t))
    (hn : (assignEach es X.env).length = n := by rfl) (hst : (assignEach es X.env).findIdx? (·.1) = none := by rfl) : PG X (.Tuple es k1 pos) (UpGw X.K T vs (gT n t)) :=
  ⟨fun pins s σ H v u Q I r ⟨S, τ, g, d, QD, sr, rp, hw, k⟩ => (pg_tup hc h hn hst).run pins s σ H v u Q I r (by
    cases d with
    | tup ds =>
      obtain ⟨hl, hb, hw⟩ := hw
      obtain ⟨a, vs', e1, e2, rs⟩ := rp
      exact ⟨a, vs', e1, e2, by rw [rs.len]; exact hl, S, τ, _, ds, QD, sr, RepsG.upl rs, hw, k⟩
    | _ => exact (show False from hw).elim)⟩
end
section
variable {X : Cx} {T : Tab}
/-- the turns of a comprehension -/
theorem lc_core' {K : PySem.W.Frag} {S : Sit} {J : It} {ds : List D} {g : Nat} {vs : List Nat} {tgd : DTG} {tt : DTT} {te : DTE} {τ : DSt} {σ : L2.St} {H1 : Hp} {QD : Sl → Prop} {Q : VK} {C : Hp → Prop} {L : Addr}
    (sr : SR K T S τ σ H1) (hL : H1 L = none) (hC : ∀ H', Kp (fun a => S.B = some a ∨ a = L) H1 H' → C H')
    (hgo : ∀ i H', i < ds.length → C H' → J.go i H') (hy : ∀ i H' x H'', C H' → J.yld i H' x H'' → H'' = H' ∧ ∀ d, ds[i]? = some d → Rep K T S.B (fun a => gset S g a ∨ a = L) H' d x) (hstop : ∀ H', C H' → J.stop ds.length H')
    (q : compRec g tgd tt te (wipeD τ vs) QD ds []) (k : ∀ H' v sl, Aft K T S H1 H' → RepSl K T S H1 H' sl v → QD sl → Q v H') :
    ∃ W : Nat → Nat → Hp → Prop, (∃ m, W 0 m (upd H1 L (.lst []))) ∧ ∀ i m H, W i m H →
      (J.stop i H ∧ Q (.ref L) H) ∨ (J.go i H ∧ ∃ Nx : Hp → Prop, (∀ H', Nx H' → ∃ m', m' < m ∧ W (i + 1) m' H') ∧ ∀ x H', J.yld i H x H' → UpGw K T vs tgd x (wipe σ vs) H' fun σ2 H2 => wipe σ2 vs = wipe σ vs ∧ UpT K T tt σ2 H2 fun b H3 =>
        if b = true then UpE K T te σ2 H3 fun y H4 => ∃ acc, H4 L = some (.lst acc) ∧ acc.length < sizeLine ∧ Nx (upd H4 L (.lst (acc ++ [y]))) else Nx H3) := by
  have nb : S.B ≠ some L := fun z => sr.newP (nl hL) (sr.bp L z)
  have nx : S.X ≠ some L := fun z => sr.newP (nl hL) (sr.xp L z).1
  let S' : Sit := { S with P := fun a => S.P a ∨ a = L }
  let M' : Addr → Prop := fun a => gset S' 2 a
  have own0 : ∀ (j : Nat) (es : List D), (wipeD τ vs)[j]? = some (.own es) → (wipe σ vs)[j]? ≠ some (some (.ref L)) := fun j es e z => by
    obtain ⟨p, ws, e1, e2, _⟩ := (sr.wiped vs).own j es e
    rw [e1] at z
    have z := V.ref.inj (Option.some.inj (Option.some.inj z))
    rw [z, hL] at e2
    cases e2
  refine ⟨fun i m H' => m = ds.length - i ∧ i ≤ ds.length ∧ ∃ (acc : List D) (ws : List V), H' L = some (.lst ws) ∧ Reps K T S.B M' H' acc ws ∧ SR K T S' (wipeD τ vs) (wipe σ vs) H' ∧ Kp (fun a => S.B = some a ∨ a = L) H1 H' ∧ compRec g tgd tt te (wipeD τ vs) QD (ds.drop i) acc,
    ⟨ds.length, rfl, Nat.zero_le _, [], [], upd_same, rfl, (sr.wiped vs).addP hL, Kp.laid hL, q⟩, ?_⟩
  rintro i m H' ⟨rfl, hi, acc, ws, e1, e2, e3, e4, q'⟩
  have c := hC H' e4
  by_cases hlt : i < ds.length
  · rw [List.drop_eq_getElem_cons hlt] at q'
    refine .inr ⟨hgo i H' hlt c, fun H2 => ∃ (acc : List D) (ws : List V), H2 L = some (.lst ws) ∧ Reps K T S.B M' H2 acc ws ∧ SR K T S' (wipeD τ vs) (wipe σ vs) H2 ∧ Kp (fun a => S.B = some a ∨ a = L) H1 H2 ∧ compRec g tgd tt te (wipeD τ vs) QD (ds.drop (i + 1)) acc,
      fun H2 z => ⟨ds.length - (i + 1), by omega, rfl, hlt, z⟩, fun x H2 y => ?_⟩
    obtain ⟨rfl, hr⟩ := hy i H' x H2 c y
    have hr := hr ds[i] (List.getElem?_eq_getElem hlt)
    have hr2 : RepG K T S' (up g ds[i]) H2 ds[i] x := by
      refine RepG.up (S := S') (Rep.anti (fun a z => ?_) _ _ hr)
      match g, z with
      | 0, z => exact .inl z
      | 1, z => exact z
      | _ + 2, z => exact Or.elim z (fun z => Or.elim z (fun z => .inl (.inl z)) .inr) fun z => .inl (.inr z)
    refine ⟨S', wipeD τ vs, _, ds[i], _, e3, hr2, q', fun τ3 σ3 s3 w3 q3 => ⟨w3.trans (wipe_wipe σ vs), S', τ3, _, s3, q3, fun H3 b a3 q4 => ?_⟩⟩
    have k3 : Kp (fun a => S.B = some a ∨ a = L) H1 H3 := e4.trans (a3.kp.mono fun _ z => .inl z)
    have e13 : H3 L = some (.lst ws) := a3.kp.k L _ e1 nb
    have e23 : Reps K T S.B M' H3 acc ws := Reps.kp a3.kp (fun c z => e3.gsub 2 c z) acc ws e2
    have s33 := e3.aft a3
    cases b with
    | false => exact ⟨acc, ws, e13, e23, s33, k3, q4⟩
    | true =>
      refine ⟨S', τ3, _, s3.aft a3, q4, fun H4 w sl a4 r4 ⟨q5, q6, q7⟩ => ?_⟩
      have k4 : Kp (fun a => S.B = some a ∨ a = L) H1 H4 := k3.trans (a4.kp.mono fun _ z => .inl z)
      have e14 : H4 L = some (.lst ws) := a4.kp.k L _ e13 nb
      have e24 : Reps K T S.B M' H4 acc ws := Reps.kp a4.kp (fun c z => e3.gsub 2 c z) acc ws e23
      have s34 := s33.aft a4
      have rd : RepG K T S' 2 H4 sl.d w := rd_of q5 (r4.g (s3.aft a3))
      obtain ⟨s35, k5⟩ := s34.wr (p := L) (vs := ws) (us := ws ++ [w]) (.inr rfl) nb nx e14 own0
      refine ⟨ws, e14, by rw [e24.len]; exact Nat.lt_of_lt_of_le q6 (lim_le' (Nat.le_refl _)), acc ++ [sl.d], ws ++ [w], upd_same, Reps.append ?_ (Reps.one ?_), s35, k4.trans (Kp.write (.inr rfl) e14), q7⟩
      · exact Reps.kp k5 (fun c z => .inl z) acc ws e24
      · exact Rep.kp k5 (fun c z => .inl z) _ _ rd
  · have e : i = ds.length := by omega
    subst e
    rw [List.drop_length] at q'
    have kk : Kp S.N H1 H' := ⟨fun a o h n => e4.k0 a o h (fun z => Or.elim z n (ne_of_none h hL)), e4.t, e4.z, e4.s⟩
    refine .inl ⟨hstop H' c, k H' (.ref L) (.own acc) ⟨kk, e3.bag⟩ ⟨L, ws, rfl, nl hL, e1, Reps.anti (fun a z => ?_) acc ws e2⟩ q'⟩
    have z : (S.P a ∨ S.M a) ∨ a = L := z
    show (S.P a ∨ a = L) ∨ S.M a
    exact Or.elim z (fun z => Or.elim z (fun z => .inl (.inl z)) .inr) fun z => .inl (.inr z)
theorem lc_up {tl : DTE} {tgd : DTG} {tt : DTT} {te : DTE} {vs : List Nat} {σ : L2.St} {H : Hp} {Q : VK} {K : PySem.W.Frag} (h : UpE K T (dLc tl tgd tt te vs) σ H Q) : tLc (iSeq K (UpE K T tl)) (UpGw K T vs tgd) (UpT K T tt) (UpE K T te) vs σ H Q := by
  obtain ⟨S, τ, QD, sr, h, k⟩ := h
  refine ⟨S, τ, _, sr, h, fun H1 v sl a r q => ?_⟩
  have s1 := sr.aft a
  have rg := r.g sr
  have k1 : ∀ H' v sl, Aft K T S H1 H' → RepSl K T S H1 H' sl v → QD sl → Q v H' := fun H' v sl a' r' q' => k H' v sl (a.trans a') (r'.back a) q'
  cases sd : sl.d with
  | lst es =>
    rw [sd] at q rg
    obtain ⟨p, ws, rfl, e1, e2, rs⟩ := rg
    refine ⟨p, rfl, .inl ⟨⟨ws, SqL.of e1⟩, fun L hL => ?_⟩⟩
    have npL : p ≠ L := ne_of_none e1 hL
    have nB : S.B ≠ some p := fun z => e2 (s1.gsub _ p z)
    refine lc_core' (C := fun H' => H' p = some (.lst ws) ∧ Reps K T S.B (fun a => gset S sl.g a ∨ a = L) H' es ws) s1 hL (fun H' kk => ⟨kk.k p _ e1 fun z => Or.elim z nB npL, Reps.kp kk (fun c z => Or.elim z (fun z => .inl (s1.gsub _ c z)) .inr) es ws (Reps.new (nl hL) es ws rs)⟩)
      (fun i H' hi c => ?_) (fun i H' x H'' c y => ⟨y.1, fun d hd => ?_⟩) (fun H' c => ⟨ws, SqL.of c.1, by rw [rs.len]; exact Nat.le_refl _⟩) q k1
    · obtain ⟨w, ew, _⟩ := c.2.get (List.getElem?_eq_getElem hi)
      exact ⟨ws, w, SqL.of c.1, ew⟩
    · obtain ⟨w, ew, rw'⟩ := c.2.get hd
      have := y.2 ws (SqL.of c.1)
      rw [ew] at this
      cases this
      exact rw'
  | tup es =>
    rw [sd] at q rg
    obtain ⟨p, ws, rfl, e1, rs⟩ := rg
    refine ⟨p, rfl, .inr ⟨⟨ws, e1⟩, fun L hL => ?_⟩⟩
    refine lc_core' (C := fun H' => SqT K H' p ws ∧ Reps K T S.B (fun a => gset S sl.g a ∨ a = L) H' es ws) s1 hL (fun H' kk => ⟨sqT_kp kk e1, Reps.kp kk (fun c z => Or.elim z (fun z => .inl (s1.gsub _ c z)) .inr) es ws (Reps.new (nl hL) es ws rs)⟩)
      (fun i H' hi c => ?_) (fun i H' x H'' c y => ⟨y.1, fun d hd => ?_⟩) (fun H' c => ⟨ws, c.1, by rw [rs.len]; exact Nat.le_refl _⟩) q k1
    · obtain ⟨w, ew, _⟩ := c.2.get (List.getElem?_eq_getElem hi)
      exact ⟨ws, w, c.1, ew⟩
    · obtain ⟨w, ew, rw'⟩ := c.2.get hd
      have := y.2 ws c.1
      rw [ew] at this
      cases this
      exact rw'
  | _ => rw [sd] at q; exact (show False from q).elim
variable {elt tg iter : Expr} {ifs : List Expr} {scope : Scope} {own : List (Str × Nat)} {pos : Pos} {tl : DTE} {tgd : DTG} {tt : DTT} {te : DTE}
theorem dts_nil : PTs X [] (UpT X.K T tYesD) := ⟨fun pins s σ H Q I ⟨S, τ, QD, sr, h, k⟩ => pts_nil.run pins s σ H Q I (k H true sr.same h)⟩
theorem dts_one {c : Expr} {t : DTT} (h : PT X c (UpT X.K T t)) : PTs X [c] (UpT X.K T t) := pts_one h
theorem de_lc (hc : X.calm = true) (hN : X.N.Nodup) (hi : PE X iter (UpE X.K T tl)) (ok : BlkOk X.N X.env.scope scope own)
    (hg : ∀ (s : Shared) (H : Hp) (C : Addr) (cl : List (Str × Addr)) (fp : List Addr), PG (X.blk s H scope (compEnvC scope cl C X.env) fp) tg (UpGw X.K T (own.map (·.2)) tgd)) (ht : ∀ (s : Shared) (H : Hp) (C : Addr) (cl : List (Str × Addr)) (fp : List Addr), PTs (X.blk s H scope (compEnvC scope cl C X.env) fp) ifs (UpT X.K T tt))
    (he : ∀ (s : Shared) (H : Hp) (C : Addr) (cl : List (Str × Addr)) (fp : List Addr), PE (X.blk s H scope (compEnvC scope cl C X.env) fp) elt (UpE X.K T te)) (hs : ∀ x, foldedSetIterable iter X.env x = pure x := by intro _; rfl) :
    PE X (.ListComp elt [⟨tg, iter, ifs, 0⟩] scope pos) (UpE X.K T (dLc tl tgd tt te (own.map (·.2)))) :=
  (pe_lc hc hN (pi_seq hi) ok hg ht he hs).of fun σ H Q h => lc_up h
theorem ds_setLc {i : Nat} {y : Str} {py spos : Pos} (hc : X.calm = true) (hN : X.N.Nodup) (hy : X.N[i]? = some y) (hyl : X.env.scope.names.lookup y = some .local)
    (hsw : swapsWith (.ListComp elt [⟨tg, iter, ifs, 0⟩] scope pos) (some (.Name y py)) spos.line X.env = pure true) (hi : PE X iter (UpE X.K T tl)) (ok : BlkOk X.N X.env.scope scope own)
    (hg : ∀ (s : Shared) (H : Hp) (C : Addr) (cl : List (Str × Addr)) (fp : List Addr), PG (X.blk s H scope (compEnvC scope cl C X.env) fp) tg (UpGw X.K T (own.map (·.2)) tgd)) (ht : ∀ (s : Shared) (H : Hp) (C : Addr) (cl : List (Str × Addr)) (fp : List Addr), PTs (X.blk s H scope (compEnvC scope cl C X.env) fp) ifs (UpT X.K T tt))
    (he : ∀ (s : Shared) (H : Hp) (C : Addr) (cl : List (Str × Addr)) (fp : List Addr), PE (X.blk s H scope (compEnvC scope cl C X.env) fp) elt (UpE X.K T te)) (hs : ∀ x, foldedSetIterable iter X.env x = pure x := by intro _; rfl) :
    PS X (.Assign [.Name y py] (.ListComp elt [⟨tg, iter, ifs, 0⟩] scope pos) spos) (UpS X.K T ek (dSet i (dLc tl tgd tt te (own.map (·.2))))) :=
  (ps_setLc hc hN hy hyl hsw (pi_seq hi) ok hg ht he hs).of fun D σ H ⟨S, τ, DD, sr, h, o⟩ => lc_up ⟨S, τ, _, sr, h, fun H1 v sl a r q => out_set sr a r o q⟩
end
end DL
/-! DL8: contracts: calls, bodies, methods, fields, instances made. -/
namespace DL
open PySem PySem.Spec PyProof.Rows L2
abbrev Ctr := List D → (Sl → Prop) → Prop
def spC (K : PySem.W.Frag) (T : Tab) (C : Ctr) : Sp := fun vs H Q _ => ∃ (B : Option Addr) (L : LX) (M : Addr → Prop) (ds : List D) (QD : Sl → Prop), BagOk T B L H ∧ (∀ a, M a → Lv H a) ∧ Reps K T B (fun a => B = some a) H ds vs ∧ C ds QD ∧
  ∀ H' v sl, Kp (fun a => B = some a) H H' → BagOk T B L H' → RepR K T B M H H' sl v → QD sl → Q v H'
def isScs : List D → List V → Prop
  | [], vs => vs = []
  | d :: ds, vs => ∃ v r, vs = v :: r ∧ isSc d v ∧ isScs ds r
theorem isScs.rep {K : PySem.W.Frag} {T : Tab} {B : Option Addr} {M : Addr → Prop} {H : Hp} : ∀ {ds : List D} {vs : List V}, isScs ds vs → Reps K T B M H ds vs
  | [], _, h => h
  | d :: ds, _, ⟨v, r, e, h1, h2⟩ => ⟨v, r, e, isSc.rep h1, isScs.rep h2⟩
@[simp] def dCall (C : Ctr) (dd : List D) (ta : DTA) : DTE := fun τ Q => ta τ fun _ ds => C (ds ++ dd) Q
section
variable {K : PySem.W.Frag} {T : Tab} {S : Sit} {τ : DSt} {σ : L2.St} {H H1 : Hp}
theorem SR.mal (sr : SR K T S τ σ H) : ∀ a, gset S 2 a → Lv H a := fun a z => Or.elim z (sr.al a) fun z => sr.kp.s a (sr.ml a z)
theorem RepR.sl (sr : SR K T S τ σ H) {sl : Sl} {v : V} (r : RepR K T S.B (gset S 2) H H1 sl v) : RepSl K T S H H1 sl v := by
  have sub : ∀ g a, gset S g a → (gset S 2 a ∨ S.B = some a) := fun g a z => match g, z with
    | 0, z => .inr z
    | 1, z => .inl (.inl z)
    | _ + 2, z => .inl z
  cases sl with
  | v g d => exact Rep.anti (sub g) d v r
  | own ds =>
    obtain ⟨p, vs, e, h1, h2, h3⟩ := r
    exact ⟨p, vs, e, h1, h2, Reps.anti (fun a z => Or.elim z (fun z => .inl (.inl z)) .inr) ds vs h3⟩
  | un => exact r
  | ins c ds => exact r
theorem spC_of {C : Ctr} {ds : List D} {vs : List V} {QD : Sl → Prop} {Q : VK} {E : XK} {g : Nat} (sr : SR K T S τ σ H) (r : RepsG K T S g H ds vs) (q : C ds QD) (k : ∀ H' v sl, Aft K T S H H' → RepSl K T S H H' sl v → QD sl → Q v H') : spC K T C vs H Q E :=
  ⟨S.B, S.L, gset S 2, ds, QD, sr.bag, sr.mal, Reps.anti (sr.gsub g) ds vs r, q, fun H' v sl kp bag rr q' => k H' v sl ⟨kp, bag⟩ (RepR.sl sr rr) q'⟩
end
/-- the slots at a def's entry -/
@[simp] def startD (N : List Str) (ds : List D) : DSt := ds.map (fun d => Sl.v (up 1 d) d) ++ List.replicate (N.length - ds.length) .un
theorem Reps.nth {K : PySem.W.Frag} {T : Tab} {B : Option Addr} {M : Addr → Prop} {H : Hp} {ds : List D} {vs : List V} (r : Reps K T B M H ds vs) {i : Nat} {d : D} (e : ds[i]? = some d) : ∃ v, vs[i]? = some v ∧ Rep K T B M H d v := r.get e
theorem sr_start {K : PySem.W.Frag} {T : Tab} {B : Option Addr} {L : LX} {M : Addr → Prop} {H : Hp} {N : List Str} {ds : List D} {vs : List V} (bag : BagOk T B L H) (hm : ∀ a, M a → Lv H a) (r : Reps K T B (fun a => B = some a) H ds vs) :
    SR K T ⟨B, L, none, H, M, fun a => B = some a, []⟩ (startD N ds) (start N vs) H := by
  have hb : ∀ a, B = some a → Lv H a := fun a e => by
    obtain ⟨_, ns, _, _, _, _, h1, _⟩ := bag.bg a e
    exact Lv.of h1
  have at_ : ∀ {i : Nat} {s : Sl}, (startD N ds)[i]? = some s → (∃ d, ds[i]? = some d ∧ s = .v (up 1 d) d) ∨ s = .un := fun {i s} e => by
    unfold startD at e
    rcases Nat.lt_or_ge i ds.length with h | h
    · rw [List.getElem?_append_left (by rw [List.length_map]; exact h), List.getElem?_map, List.getElem?_eq_getElem h] at e
      cases e
      exact .inl ⟨_, List.getElem?_eq_getElem h, rfl⟩
    · rw [List.getElem?_append_right (by rw [List.length_map]; exact h)] at e
      obtain ⟨_, e⟩ := List.getElem?_eq_some_iff.mp e
      rw [List.getElem_replicate] at e
      exact .inr e.symm
  refine ⟨?_, fun a z => z, hb, hm, Kp.refl, fun a z => (by cases z), fun a z q => absurd z q, hb, bag, fun b e z => ?_, fun i g d e => ?_, fun i es e => ?_, fun i c es e => ?_, fun x hx => (by cases hx), fun i j es fs p e => ?_⟩
  · unfold startD L2.start
    rw [List.length_append, List.length_append, List.length_map, List.length_map, List.length_replicate, List.length_replicate, r.len]
  · obtain ⟨h1, _⟩ := bag.bg b e
    have z : B = some L.a := z
    have e : B = some b := e
    rw [e] at z
    exact h1 (Option.some.inj z)
  · rcases at_ e with ⟨d', e1, e2⟩ | e2
    · cases e2
      obtain ⟨v, h1, h2⟩ := r.get e1
      refine ⟨?_, v, ?_, RepG.up (S := ⟨B, L, none, H, M, fun a => B = some a, []⟩) (g := 1) h2⟩
      · unfold up
        cases d.imm <;> decide
      · unfold L2.start
        rw [List.getElem?_append_left (by rw [List.length_map]; exact (List.getElem?_eq_some_iff.mp h1).1), List.getElem?_map, h1] <;> rfl
    · cases e2
  · rcases at_ e with ⟨d', e1, e2⟩ | e2 <;> cases e2
  · rcases at_ e with ⟨d', e1, e2⟩ | e2 <;> cases e2
  · rcases at_ e with ⟨d', e1, e2⟩ | e2 <;> cases e2
section
variable {P : Program} {w : World} {K : PySem.W.Frag} {T : Tab} {mg : Str → Option Value} {base : Heap} {x qual : Str} {params : Arguments} {body : List Stmt} {scope : Scope} {dvs : List V} {kws : List (Str × V)} {f : Addr} {fd : FuncData} {N ps : List Str} {k : Nat}
/-- a def that keeps its contract and raises nothing -/
theorem fn_ok (F : FunD K x qual params body scope dvs kws f fd) (S : FnScope N ps scope) (C : Ctr) (t : DTS) (hl : ∀ ds QD, C ds QD → ds.length = ps.length)
    (hb : ∀ (cdv : Value) (A : Around) (outer : List Env) (s : Shared) (H : Hp) (E : XK), Room k (A.deeper (envOfC qual scope s.heap.objs.size f cdv)) → PSs (cxOf CX0 P w K mg base N qual scope f cdv A outer s H E).nox body (UpS K T ⟨mg, E⟩ t))
    (hp : ∀ ds QD, C ds QD → t { nx := fun _ => QD (.v 2 .non), rt := QD } (startD N ds)) : FnOk P w K mg base CX0 (k + 1) f fd ps (spC K T C) := by
  refine F.ok S (fun vs H Q E h => ?_) (fun cdv A outer s H vs Q E hr h => ⟨UpS K T ⟨mg, E⟩ t, (hb cdv A outer s H E hr).nox, ?_⟩)
  · obtain ⟨B, L, M, ds, QD, _, _, r, q, _⟩ := h
    rw [r.len]; exact hl ds QD q
  · obtain ⟨B, L, M, ds, QD, bag, hm, r, q, kk⟩ := h
    have kb : ∀ {H' : Hp}, Kp (fun a => B = some a ∨ none = some a) H H' → Kp (fun a => B = some a) H H' := fun z => z.mono fun _ z => Or.elim z (fun z => z) (fun z => by cases z)
    refine ⟨⟨B, L, none, H, M, fun a => B = some a, []⟩, startD N ds, _, sr_start bag hm r, hp ds QD q, ⟨fun P' τ' σ' H' sr q' => kk H' .non (.v 2 .non) (kb sr.kp) sr.bag rfl q', fun _ _ _ _ _ z => z.elim, fun _ _ _ _ _ z => z.elim, fun H' v sl kp bag' rr q' => kk H' v sl (kb kp) bag' rr q', fun _ _ _ _ _ _ _ _ z => z.elim, fun _ _ _ _ _ _ _ z => z.elim⟩⟩
end
section
variable {X : Cx} {T : Tab} {CX : CXT} {k : Nat} {f Ca : Addr} {fd : FuncData} {ps : List Str} {C : Ctr} {dd : List D} {dvs : List V} {ds : List Value} {E : XK} {x m : Str} {p pos apos : Pos} {e o : Expr} {es : List Expr} {to : DTE} {t : DTA}
theorem de_call (F : FnOk X.prog X.w X.K X.mg X.base CX k f fd ps (spC X.K T C)) (hr : Room k X.A) (hg : Gl X x) (hm : X.mg x = some (.ref f)) (hk : PySem.W.keepIn X.K (.ref f) = true) (hb : Binds X.K fd ps ds) (hd : Vals dvs ds) (hx : Passes CX X E) (hdd : isScs dd dvs)
    (ha : PA X (e :: es) (UpA X.K T t)) (hdb : (x == ("__debug__" : Str)) = false := by decide) (he : starEach (e :: es) X.env = (false, eval e X.env) :: starEach es X.env := by rfl) (hpl : (backTo pos (starEach es X.env)).any (·.1) = false := by rfl) :
    PE X (.Call (.Name x p) (e :: es) [] pos) (UpE X.K T (dCall C dd t)) :=
  (pe_call F hr hg hm hk hb hd hx ha hdb he hpl).of fun σ H Q ⟨S, τ, QD, sr, h, k⟩ => ⟨S, τ, _, sr, h, fun H1 vs g ds a r q =>
    spC_of (E := E) (sr.aft a) (r.append hdd.rep) q fun H' v sl a2 r2 q2 => k H' v sl (a.trans a2) (r2.back a) q2⟩
theorem de_call0 (F : FnOk X.prog X.w X.K X.mg X.base CX k f fd ps (spC X.K T C)) (hr : Room k X.A) (hg : Gl X x) (hm : X.mg x = some (.ref f)) (hk : PySem.W.keepIn X.K (.ref f) = true) (hb : Binds X.K fd ps ds) (hd : Vals dvs ds) (hx : Passes CX X E) (hdd : isScs dd dvs)
    (hdb : (x == ("__debug__" : Str)) = false := by decide) : PE X (.Call (.Name x p) [] [] pos) (UpE X.K T (dCall C dd aNil)) :=
  (pe_call0 F hr hg hm hk hb hd hx hdb).of fun σ H Q ⟨S, τ, QD, sr, h, k⟩ =>
    spC_of (g := 2) (E := E) sr (hdd.rep) h fun H' v sl a2 r2 q2 => k H' v sl a2 r2 q2
/-- o.m(..), o an instance that is data -/
@[simp] def dMeth (c : Nat) (C : Ctr) (dd : List D) (to : DTE) (ta : DTA) : DTE := fun τ Q => to τ fun o => match o.d with
  | .obj c' fs => c' = c ∧ ta τ fun _ ds => C (.obj c fs :: (ds ++ dd)) Q
  | _ => False
theorem zip_lookup {fs : List Str} {vs : List V} {j : Nat} {f : Str} {v : V} (nd : fs.Nodup) (h : fs[j]? = some f) (hv : vs[j]? = some v) : (fs.zip vs).lookup f = some v := by
  induction fs generalizing vs j with
  | nil => simp at h
  | cons g gs ih =>
    cases vs with
    | nil => simp at hv
    | cons u us =>
      cases j with
      | zero =>
        simp at h hv
        rw [h, hv, List.zip_cons_cons, List.lookup_cons_self]
      | succ j =>
        rw [List.getElem?_cons_succ] at h hv
        have hne : f ≠ g := fun z => (List.nodup_cons.mp nd).1 (z ▸ List.mem_of_getElem? h)
        rw [List.zip_cons_cons, List.lookup_cons]
        have : (f == g) = false := beq_eq_false_iff_ne.mpr hne
        rw [this]
        exact ih (List.nodup_cons.mp nd).2 h hv
theorem zip_none {fs : List Str} {vs : List V} {f : Str} (h : f ∉ fs) : (fs.zip vs).lookup f = none := by
  induction fs generalizing vs with
  | nil => rfl
  | cons g gs ih =>
    cases vs with
    | nil => rfl
    | cons u us =>
      rw [List.zip_cons_cons, List.lookup_cons]
      have : (f == g) = false := beq_eq_false_iff_ne.mpr fun z => h (z ▸ List.mem_cons_self)
      rw [this]
      exact ih fun z => h (List.mem_cons_of_mem _ z)
theorem de_meth {c : Nat} {pl : Sem Bool} (he : PE X o (UpE X.K T to)) (cl : Cls X.K (T c).1) (hm : Meth X.K (T c).1 m f) (hmf : m ∉ (T c).2) (F : FnOk X.prog X.w X.K X.mg X.base CX k f fd ps (spC X.K T C)) (hr : Room k X.A) (hb : Binds X.K fd ps ds) (hd : Vals dvs ds) (hx : Passes CX X E) (hdd : isScs dd dvs) (ha : PA X (e :: es) (UpA X.K T t))
    (hst : starEach (e :: es) X.env = (false, eval e X.env) :: starEach es X.env := by rfl) (hpl : (backTo pos (starEach es X.env)).any (·.1) = false := by rfl)
    (ht : eval (.Call (.Attribute o m apos) (e :: es) [] pos) X.env = (do
      let ov ← eval o X.env
      standAt apos.atName
      let (f, first) ← holding [ov] (getMethod ov m pl)
      callWith pos f first (backTo pos (starEach (e :: es) X.env)) (backToKw pos (keywordEach [] X.env))) := by rfl) :
    PE X (.Call (.Attribute o m apos) (e :: es) [] pos) (UpE X.K T (dMeth c C dd to t)) :=
  (pe_meth he cl hm F hr hb hd hx ha hst hpl ht).of fun σ H Q ⟨S, τ, QD, sr, h, k⟩ => ⟨S, τ, _, sr, h, fun H1 v sl a r q => by
    have rg := r.g sr
    have s1 := sr.aft a
    cases sd : sl.d with
    | obj c' fs =>
      rw [sd] at q rg
      obtain ⟨rfl, q⟩ := q
      obtain ⟨ad, dx, ws, rfl, e1, e2, rs⟩ := id rg
      refine ⟨ad, dx, _, rfl, e1, zip_none hmf, S, τ, _, s1, q, fun H2 vs g ds a2 r2 q2 => ?_⟩
      have s2 := s1.aft a2
      refine spC_of (g := 0) (E := E) s2 (ds := .obj c' fs :: (ds ++ dd)) ⟨.ref ad, vs ++ dvs, rfl, RepG.le s2 (Nat.zero_le _) (s1.rep a2.kp rg), (RepsG.le s2 (Nat.zero_le _) r2).append hdd.rep⟩ q2 fun H' v sl a3 r3 q3 => k H' v sl (a.trans (a2.trans a3)) (r3.back (a.trans a2)) q3
    | _ => rw [sd] at q; exact (show False from q).elim⟩
theorem de_meth0 {c : Nat} {pl : Sem Bool} (he : PE X o (UpE X.K T to)) (cl : Cls X.K (T c).1) (hm : Meth X.K (T c).1 m f) (hmf : m ∉ (T c).2) (F : FnOk X.prog X.w X.K X.mg X.base CX k f fd ps (spC X.K T C)) (hr : Room k X.A) (hb : Binds X.K fd ps ds) (hd : Vals dvs ds) (hx : Passes CX X E) (hdd : isScs dd dvs)
    (ht : eval (.Call (.Attribute o m apos) [] [] pos) X.env = (do
      let ov ← eval o X.env
      standAt apos.atName
      let (f, first) ← holding [ov] (getMethod ov m pl)
      callWith pos f first (backTo pos (starEach [] X.env)) (backToKw pos (keywordEach [] X.env))) := by rfl) :
    PE X (.Call (.Attribute o m apos) [] [] pos) (UpE X.K T (dMeth c C dd to aNil)) :=
  (pe_meth0 he cl hm F hr hb hd hx ht).of fun σ H Q ⟨S, τ, QD, sr, h, k⟩ => ⟨S, τ, _, sr, h, fun H1 v sl a r q => by
    have rg := r.g sr
    have s1 := sr.aft a
    cases sd : sl.d with
    | obj c' fs =>
      rw [sd] at q rg
      obtain ⟨rfl, q⟩ := q
      obtain ⟨ad, dx, ws, rfl, e1, e2, rs⟩ := id rg
      refine ⟨ad, dx, _, rfl, e1, zip_none hmf, ?_⟩
      refine spC_of (g := 0) (E := E) s1 (ds := .obj c' fs :: dd) ⟨.ref ad, dvs, rfl, RepG.le s1 (Nat.zero_le _) rg, hdd.rep⟩ q fun H' v sl a3 r3 q3 => k H' v sl (a.trans a3) (r3.back a) q3
    | _ => rw [sd] at q; exact (show False from q).elim⟩
/-- o.f -/
@[simp] def dFld (c j : Nat) (to : DTE) : DTE := fun τ Q => to τ fun o => match o.d with
  | .obj c' fs => c' = c ∧ match fs[j]? with
    | some d => Q (.v (up o.g d) d)
    | none => False
  | _ => False
theorem de_fld {c j : Nat} {g : Str} (he : PE X o (UpE X.K T to)) (cl : Cls X.K (T c).1) (na : NoAttr X.K (T c).1 g) (nd : (T c).2.Nodup) (hj : (T c).2[j]? = some g) (hb : attributeBase o g X.env (eval o X.env) = eval o X.env := by rfl) : PE X (.Attribute o g pos) (UpE X.K T (dFld c j to)) :=
  (pe_fld he hb).of fun σ H Q ⟨S, τ, QD, sr, h, k⟩ => ⟨S, τ, _, sr, h, fun H1 v sl a r q => by
    have rg := r.g sr
    cases sd : sl.d with
    | obj c' fs =>
      rw [sd] at q rg
      obtain ⟨rfl, q⟩ := q
      obtain ⟨ad, dx, ws, rfl, e1, e2, rs⟩ := rg
      cases ed : fs[j]? with
      | none => rw [ed] at q; exact q.elim
      | some d =>
        rw [ed] at q
        obtain ⟨u, h1, h2⟩ := rs.get ed
        exact ⟨ad, _, dx, _, u, rfl, e1, cl, na, zip_lookup nd hj h1, k H1 u (.v _ d) a (RepG.up h2) q⟩
    | _ => rw [sd] at q; exact (show False from q).elim⟩

/-! ### instances made -/
abbrev CtrI := List D → (List D → Prop) → Prop
def spI (K : PySem.W.Frag) (T : Tab) (c : Nat) (C : CtrI) : Sp := fun vs H Q _ => ∃ (B : Option Addr) (L : LX) (M : Addr → Prop) (ds : List D) (QD : List D → Prop) (x dx : Addr) (us : List V), vs = .ref x :: us ∧ H x = some (.ins (T c).1 dx []) ∧ B ≠ some x ∧ L.a ≠ x ∧ ¬ M x ∧
  BagOk T B L H ∧ (∀ a, M a → Lv H a) ∧ Reps K T B (fun a => B = some a ∨ a = x) H ds us ∧ C ds QD ∧
  ∀ H' fs ws dx', Kp (fun a => B = some a ∨ a = x) H H' → BagOk T B L H' → H' x = some (.ins (T c).1 dx' ((T c).2.zip ws)) → Reps K T B (fun a => (M a ∨ B = some a) ∨ a = x) H' fs ws → QD fs → Q .non H'
@[simp] def dMake (c : Nat) (C : CtrI) (dd : List D) (ta : DTA) : DTE := fun τ Q => ta τ fun _ ds => C (ds ++ dd) fun fs => Q (.v 2 (.obj c fs))
theorem make_of {K : PySem.W.Frag} {S : Sit} {τ : DSt} {σ : L2.St} {H : Hp} {c : Nat} {C : CtrI} {ds : List D} {vs : List V} {QD : Sl → Prop} {Q : VK} {g : Nat} (sr : SR K T S τ σ H) (r : RepsG K T S g H ds vs) (q : C ds fun fs => QD (.v 2 (.obj c fs))) (k : ∀ H' v sl, Aft K T S H H' → RepSl K T S H H' sl v → QD sl → Q v H') :
    ∀ x dx, H x = none → H dx = none → dx ≠ x → spI K T c C (.ref x :: vs) (upd (upd H dx (.own x)) x (.ins (T c).1 dx [])) (fun v H2 => v = .non ∧ Q (.ref x) H2) E := by
  intro x dx hx hdx hne
  have a1 := sr.laid (o := .own x) hdx
  have hx1 : upd H dx (.own x) x = none := by rw [upd_ne (Ne.symm hne)]; exact hx
  have a2 := (sr.aft a1).laid (o := .ins (T c).1 dx []) hx1
  have a := a1.trans a2
  have s2 := sr.aft a
  have nP : ¬ gset S 2 x := sr.newG (nl hx) 2
  have nL : ∀ b, S.B = some b → S.L.a ≠ x := fun b e z => by
    obtain ⟨_, ns, _, _, _, _, _, h2, _⟩ := sr.bag.bg b e
    rw [z, hx] at h2; cases h2
  by_cases hB : S.B = none
  · -- no drawing list: any L will do
    refine ⟨S.B, ⟨x + 1⟩, gset S 2, ds, _, x, dx, vs, rfl, upd_same, (by rw [hB]; intro z; cases z), Nat.succ_ne_self x, nP, ⟨fun b e => (by rw [hB] at e; cases e), s2.bag.tb⟩, s2.mal, ?_, q, ?_⟩
    · exact Reps.kp a.kp (fun c z => .inl z) ds vs (Reps.new (nl hx) ds vs (Reps.anti (sr.gsub g) ds vs r))
    · intro H' fs ws dx2 kp bag e rs q'
      refine ⟨rfl, ?_⟩
      have kk : Kp S.N H H' := by
        have kk := (a.kp.mono (N' := fun a => S.B = some a ∨ a = x) fun _ z => .inl z).trans kp
        exact ⟨fun b o h n => kk.k0 b o h (fun z => Or.elim z n (ne_of_none h hx)), kk.t, kk.z, kk.s⟩
      exact k H' (.ref x) (.v 2 (.obj c fs)) ⟨kk, ⟨fun b e => (by rw [hB] at e; cases e), bag.tb⟩⟩ ⟨x, dx2, ws, rfl, e, nP, Reps.anti (fun a z => .inl (.inl z)) fs ws rs⟩ q'
  · obtain ⟨b, hb⟩ := Option.ne_none_iff_exists'.mp hB
    refine ⟨S.B, S.L, gset S 2, ds, _, x, dx, vs, rfl, upd_same, fun z => nP (.inl (sr.bp x z)), nL b hb, nP, s2.bag, s2.mal, ?_, q, ?_⟩
    · exact Reps.kp a.kp (fun c z => .inl z) ds vs (Reps.new (nl hx) ds vs (Reps.anti (sr.gsub g) ds vs r))
    · intro H' fs ws dx2 kp bag e rs q'
      refine ⟨rfl, ?_⟩
      have kk : Kp S.N H H' := by
        have kk := (a.kp.mono (N' := fun a => S.B = some a ∨ a = x) fun _ z => .inl z).trans kp
        exact ⟨fun b o h n => kk.k0 b o h (fun z => Or.elim z n (ne_of_none h hx)), kk.t, kk.z, kk.s⟩
      exact k H' (.ref x) (.v 2 (.obj c fs)) ⟨kk, bag⟩ ⟨x, dx2, ws, rfl, e, nP, Reps.anti (fun a z => .inl (.inl z)) fs ws rs⟩ q'
theorem de_make {c : Nat} {Ci : CtrI} (M : Mk X.K (T c).1 f) (F : FnOk X.prog X.w X.K X.mg X.base CX k f fd ps (spI X.K T c Ci)) (hr : Room (k + 1) X.A) (hg : Gl X x) (hm : X.mg x = some (.ref (T c).1)) (hb : Binds X.K fd ps ds) (hd : Vals dvs ds) (hx : Passes CX X E) (hdd : isScs dd dvs)
    (ha : PA X (e :: es) (UpA X.K T t)) (hdb : (x == ("__debug__" : Str)) = false := by decide) (he : starEach (e :: es) X.env = (false, eval e X.env) :: starEach es X.env := by rfl) (hpl : (backTo pos (starEach es X.env)).any (·.1) = false := by rfl) :
    PE X (.Call (.Name x p) (e :: es) [] pos) (UpE X.K T (dMake c Ci dd t)) :=
  (pe_make M F hr hg hm hb hd hx ha hdb he hpl).of fun σ H Q ⟨S, τ, QD, sr, h, k⟩ => ⟨S, τ, _, sr, h, fun H1 vs g ds a r q =>
    make_of (sr.aft a) (r.append hdd.rep) q fun H' v sl a2 r2 q2 => k H' v sl (a.trans a2) (r2.back a) q2⟩
end
end DL
/-! DL9: match. -/
namespace DL
open PySem PySem.Spec PyProof.Rows L2
inductive DP where
  | val (x : Str) | non | cap (n : Option Str) | seq (ps : List DP) | as (p : DP) (n : Str) | or (ps : List DP)
abbrev Caps := List (Str × D)
mutual
@[simp] def patD : DP → D → Option Caps
  | .val x, d => bif eqB d (.str x) then some [] else none
  | .non, d => bif isNon d then some [] else none
  | .cap none, _ => some []
  | .cap (some n), d => some [(n, d)]
  | .seq ps, .tup ds => patDs ps ds
  | .seq ps, .lst ds => patDs ps ds
  | .seq _, _ => none
  | .as p n, d => match patD p d with
    | some cs => some (cs ++ [(n, d)])
    | none => none
  | .or ps, d => patOr ps d
@[simp] def patDs : List DP → List D → Option Caps
  | [], [] => some []
  | p :: ps, d :: ds => match patD p d with
    | none => none
    | some cs => match patDs ps ds with
      | none => none
      | some cs' => some (cs ++ cs')
  | [], _ :: _ => none
  | _ :: _, [] => none
@[simp] def patOr : List DP → D → Option Caps
  | [], _ => none
  | p :: ps, d => match patD p d with
    | some cs => some cs
    | none => patOr ps d
end
mutual
@[simp] def okP : DP → D → Bool
  | .val x, d => shp d && shp (.str x)
  | .non, _ => true
  | .cap _, _ => true
  | .seq ps, .tup ds => okPs ps ds
  | .seq _, _ => false
  | .as p _, d => okP p d
  | .or ps, d => okOr ps d
@[simp] def okPs : List DP → List D → Bool
  | p :: ps, d :: ds => okP p d && okPs ps ds
  | _, _ => true
@[simp] def okOr : List DP → D → Bool
  | [], _ => true
  | p :: ps, d => okP p d && okOr ps d
end
def CapR (K : PySem.W.Frag) (T : Tab) (B : Option Addr) (M : Addr → Prop) (H : Hp) : Caps → List (Str × Value) → Prop := Paired fun c b => c.1 = b.1 ∧ ∃ v, Rep K T B M H c.2 v ∧ RelV v b.2
def CapQ (K : PySem.W.Frag) (T : Tab) (B : Option Addr) (M : Addr → Prop) (H : Hp) (Q : Option (List (Str × Value)) → Shared → Prop) (s' : Shared) : Option Caps → Prop
  | none => Q none s'
  | some cs => ∀ bs, CapR K T B M H cs bs → Q (some bs) s'
structure PPat (X : Cx) (T : Tab) (p : Pattern) (dp : DP) : Prop where
  run : ∀ (pins : List (Addr × Obj)) (s : Shared) (σ : L2.St) (H : Hp) (B : Option Addr) (M : Addr → Prop) (d : D) (v : V) (u : Value) (Q : Option (List (Str × Value)) → Shared → Prop), Inv X pins σ H s → Rep X.K T B M H d v → RelV v u → okP dp d = true →
    (∀ s', Inv X pins σ H s' → CapQ X.K T B M H Q s' (patD dp d)) → wpAny (model X.prog X.w) X.A (matchPattern p X.env u) Q X.xe s
structure PPats (X : Cx) (T : Tab) (ps : List Pattern) (dps : List DP) : Prop where
  run : ∀ (pins : List (Addr × Obj)) (s : Shared) (σ : L2.St) (H : Hp) (B : Option Addr) (M : Addr → Prop) (ds : List D) (vs : List V) (us : List Value) (Q : Option (List (Str × Value)) → Shared → Prop), ds.length = dps.length → Inv X pins σ H s → Reps X.K T B M H ds vs → Vals vs us → okPs dps ds = true →
    (∀ s', Inv X pins σ H s' → CapQ X.K T B M H Q s' (patDs dps ds)) → wpAny (model X.prog X.w) X.A (matchEach ps X.env us) Q X.xe s
structure PPor (X : Cx) (T : Tab) (ps : List Pattern) (dps : List DP) : Prop where
  run : ∀ (pins : List (Addr × Obj)) (s : Shared) (σ : L2.St) (H : Hp) (B : Option Addr) (M : Addr → Prop) (d : D) (v : V) (u : Value) (Q : Option (List (Str × Value)) → Shared → Prop), Inv X pins σ H s → Rep X.K T B M H d v → RelV v u → okOr dps d = true →
    (∀ s', Inv X pins σ H s' → CapQ X.K T B M H Q s' (patOr dps d)) → wpAny (model X.prog X.w) X.A (matchFirst ps X.env u) Q X.xe s
theorem patDs_len : ∀ {ps : List DP} {ds : List D}, ds.length ≠ ps.length → patDs ps ds = none
  | [], [], h => absurd rfl h
  | [], _ :: _, _ => rfl
  | _ :: _, [], _ => rfl
  | p :: ps, d :: ds, h => by
    have e : patDs ps ds = none := patDs_len fun z => h (by rw [List.length_cons, List.length_cons, z])
    unfold patDs
    rw [e]
    cases patD p d <;> rfl
theorem CapR.app {K : PySem.W.Frag} {T : Tab} {B : Option Addr} {M : Addr → Prop} {H : Hp} : ∀ {cs cs' : Caps} {bs bs' : List (Str × Value)}, CapR K T B M H cs bs → CapR K T B M H cs' bs' → CapR K T B M H (cs ++ cs') (bs ++ bs')
  | [], _, _, _, .nil, h => h
  | _ :: _, _, _, _, .cons a b, h => .cons a (CapR.app b h)
section
variable {X : Cx} {T : Tab} {pos p2 : Pos} {k : Nat}
theorem pp_val {x : Str} (hu : X.A.units + 64 < cLine) : PPat X T (.MatchValue (.Constant (.str x) k p2) pos) (.val x) := ⟨fun pins s σ H B M d v u Q I r rv ok h => by
  obtain ⟨h1, h2⟩ := Bool.and_eq_true_iff.mp (show (shp d && shp (.str x)) = true from ok)
  refine wpAny_matchPattern_Value (thn (pe_str.run pins s σ H (fun w H' => w = .str x ∧ H' = H) I ⟨rfl, rfl⟩) fun w s1 ⟨w', H1, I1, r1, e1, e2⟩ => ?_)
  subst e1 e2
  obtain ⟨p1, s1'⟩ := shp_dp h1 r
  obtain ⟨p2, s2'⟩ := shp_dp (K := X.K) (T := T) (B := B) (M := M) (H := H1) (v := .str x) h2 rfl
  refine thn (op_eqD hu pins s1 σ H1 v (.str x) u w (fun z H' => z = .bl (eqB d (.str x)) ∧ H' = H1) I1 rv r1 ⟨_, _, p1, p2, s1', s2', rfl, rfl⟩) fun c s2 ⟨z, H2, I2, r2, e3, e4⟩ => ?_
  subst e3 e4
  have r2 : c = Value.bool (eqB d (.str x)) := r2
  subst r2
  refine wpAny_truthy_bool ?_
  have q := h s2 I2
  unfold patD at q
  cases eb : eqB d (.str x) with
  | true =>
    rw [eb] at q
    exact q [] .nil
  | false =>
    rw [eb] at q
    exact q⟩
theorem pp_non : PPat X T (.MatchSingleton .none pos) .non := ⟨fun pins s σ H B M d v u Q I r rv ok h => by
  have q := h s I
  unfold patD at q
  have e : (u == Value.none) = isNon d := by rw [rv.none_iff, r.isNon]
  cases en : isNon d with
  | true =>
    rw [en] at q e
    have : u = Value.none := by simpa using e
    subst this
    exact wpAny_matchPattern_Singleton_None (q [] .nil)
  | false =>
    rw [en] at q e
    refine wpAny_matchPattern_Singleton_miss ?_ q
    rw [arm_matchPattern_MatchSingleton]
    cases u <;> first | rfl | (simp at e)⟩
theorem pp_cap {n : Option Str} : PPat X T (.MatchAs none n pos) (.cap n) := ⟨fun pins s σ H B M d v u Q I r rv ok h => by
  refine wpAny_matchPattern_Capture ?_
  have q := h s I
  cases n with
  | none => exact q [] .nil
  | some n => exact q [(n, u)] (.cons ⟨rfl, v, r, rv⟩ .nil)⟩
theorem pp_as {p : Pattern} {dp : DP} {n : Str} (hp : PPat X T p dp) : PPat X T (.MatchAs (some p) (some n) pos) (.as dp n) := ⟨fun pins s σ H B M d v u Q I r rv ok h => by
  refine wpAny_matchPattern_As (hp.run pins s σ H B M d v u _ I r rv ok fun s' I' => ?_)
  have q := h s' I'
  unfold patD at q
  cases e : patD dp d with
  | none => rw [e] at q; exact q
  | some cs =>
    rw [e] at q
    intro bs hb
    exact q _ (hb.app (.cons ⟨rfl, v, r, rv⟩ .nil))⟩
theorem ppr_nil : PPor X T [] [] := ⟨fun pins s σ H B M d v u Q I r rv ok h => wpAny_matchFirst_nil (h s I)⟩
theorem ppr_cons {p : Pattern} {ps : List Pattern} {dp : DP} {dps : List DP} (hp : PPat X T p dp) (hps : PPor X T ps dps) : PPor X T (p :: ps) (dp :: dps) := ⟨fun pins s σ H B M d v u Q I r rv ok h => by
  obtain ⟨h1, h2⟩ := Bool.and_eq_true_iff.mp (show (okP dp d && okOr dps d) = true from ok)
  refine wpAny_matchFirst_cons (hp.run pins s σ H B M d v u _ I r rv h1 fun s' I' => ?_)
  cases e : patD dp d with
  | none =>
    refine hps.run pins s' σ H B M d v u Q I' r rv h2 fun s2 I2 => ?_
    have q := h s2 I2
    unfold patOr at q
    rw [e] at q
    exact q
  | some cs =>
    have q := h s' I'
    unfold patOr at q
    rw [e] at q
    exact q⟩
/-- patterns that name nothing -/
theorem pp_or {ps : List Pattern} {dps : List DP} (hps : PPor X T ps dps) (hn : ∀ d cs, patOr dps d = some cs → cs = []) (hnn : namesOfAll (ps.take 1) = []) : PPat X T (.MatchOr ps pos) (.or dps) := ⟨fun pins s σ H B M d v u Q I r rv ok h => by
  refine wpAny_matchPattern_Or (hps.run pins s σ H B M d v u _ I r rv ok fun s' I' => ?_)
  have q := h s' I'
  unfold patD at q
  cases e : patOr dps d with
  | none => rw [e] at q; exact q
  | some cs =>
    rw [e] at q
    intro bs hb
    have := hn d cs e
    subst this
    rw [hnn]
    exact q [] .nil⟩
theorem pps_nil : PPats X T [] [] := ⟨fun pins s σ H B M ds vs us Q hl I r rv ok h => by
  have e : ds = [] := List.eq_nil_of_length_eq_zero hl
  subst e
  have e2 : vs = [] := r
  subst e2
  cases rv
  exact wpAny_matchEach_nil (h s I [] .nil)⟩
theorem pps_cons {p : Pattern} {ps : List Pattern} {dp : DP} {dps : List DP} (hp : PPat X T p dp) (hps : PPats X T ps dps) (hst : p.isStar = false := by rfl) : PPats X T (p :: ps) (dp :: dps) := ⟨fun pins s σ H B M ds vs us Q hl I r rv ok h => by
  cases ds with
  | nil => cases hl
  | cons d ds =>
    obtain ⟨v, vr, e, r1, r2⟩ := r
    subst e
    cases rv with
    | cons rv1 rv2 =>
      obtain ⟨h1, h2⟩ := Bool.and_eq_true_iff.mp (show (okP dp d && okPs dps ds) = true from ok)
      refine wpAny_matchEach_cons (hp.run pins s σ H B M d v _ _ I r1 rv1 h1 fun s' I' => ?_) hst
      cases e : patD dp d with
      | none =>
        have q := h s' I'
        unfold patDs at q
        rw [e] at q
        exact q
      | some cs =>
        intro bs hb
        refine hps.run pins s' σ H B M ds vr _ _ (Nat.succ.inj hl) I' r2 rv2 h2 fun s2 I2 => ?_
        have q := h s2 I2
        unfold patDs at q
        rw [e] at q
        cases e2 : patDs dps ds with
        | none => rw [e2] at q; exact q
        | some cs' =>
          rw [e2] at q
          intro bs' hb'
          exact q _ (hb.app hb')⟩
theorem pp_seq {ps : List Pattern} {dps : List DP} (hc : X.calm = true) (hps : PPats X T ps dps) (hl : ps.length = dps.length) (hstar : ps.findIdx? (·.isStar) = none := by rfl)
    (hwild : (ps.all fun p => p.isWildcard || (p.isStar && p.names.isEmpty)) = false := by rfl) : PPat X T (.MatchSequence ps pos) (.seq dps) := ⟨fun pins s σ H B M d v u Q I r rv ok h => by
  cases d with
  | tup ds =>
    obtain ⟨a, vs, rfl, e1, rs⟩ := r
    cases rv
    obtain ⟨its, r, ht, hz⟩ := I.tuple e1
    have hlen : its.toArray.size = ds.length := by rw [List.size_toArray, ← r.length, rs.len]
    have hfit : (its.toArray.size : Int) < 2 ^ 63 := by
      have := line63
      rw [hlen, ← rs.len]
      have h3 : (vs.length : Int) ≤ ((sizeLine : Nat) : Int) := Int.ofNat_le.mpr hz
      have h4 : ((sizeLine : Nat) : Int) < 2 ^ 63 := by
        rw [sizeLine_eq]; decide
      omega
    by_cases hn : ds.length = dps.length
    · refine matchSeq_tuple_hit ht hfit (by rw [hlen, hn, hl]) ?_ hstar hwild
      have I1 : Inv X pins σ H { s with toks := s.toks + 1 + 1 } := I.tok _
      rw [hl, ← hn, ← hlen]
      refine unpackItems_tuple (I.ok.hd hc) ht fun h' hx => ?_
      have I2 := I1.kept (h' := h') (t' := s.toks + 1 + 1) fun b o e => hx b o (Nat.ne_of_lt (Heap.lt_size e)) e
      exact hps.run pins _ σ H B M ds vs _ Q hn I2 rs (by simpa using r) ok h
    · refine matchSeq_tuple_miss ht hfit (by rw [hlen, hl]; exact hn) ?_ hstar hwild
      have q := h { s with toks := s.toks + 1 + 1 } (I.tok _)
      unfold patD at q
      rw [patDs_len hn] at q
      exact q
  | _ => cases ok⟩
end

/-! ### the statement -/
structure DCase where
  pat : DP
  ix : List Nat
  body : DTS
@[simp] def setAll (g : Nat) : List Nat → Caps → DSt → (DSt → Prop) → Prop
  | [], [], τ, Q => Q τ
  | i :: is, (_, d) :: cs, τ, Q => Nat.ble 1 (up g d) = true ∧ setAll g is cs (τ.set i (.v (up g d) d)) Q
  | _, _, _, _ => False
@[simp] def caseRec (g : Nat) (d : D) (E : DEnds) : List DCase → DSt → Prop
  | [], τ => E.nx τ
  | c :: cs, τ => okP c.pat d = true ∧ match patD c.pat d with
    | some caps => setAll g c.ix caps τ fun τ' => c.body E τ'
    | none => caseRec g d E cs τ
@[simp] def dMatch (te : DTE) (cs : List DCase) : DTS := fun E τ => te τ fun sl => caseRec sl.g sl.d E cs τ
structure PCs (X : Cx) (T : Tab) (ek : EK) (cases : List MatchCase) (cs : List DCase) : Prop where
  run : ∀ (pins : List (Addr × Obj)) (s : Shared) (σ : L2.St) (H : Hp) (S : Sit) (τ : DSt) (g : Nat) (d : D) (v : V) (u : Value) (fi : Bool) (DD : DEnds) (E : Ends), Inv X pins σ H s → SR X.K T S τ σ H → RepG X.K T S g H d v → RelV v u → caseRec g d DD cs τ → Out X.K T ek S DD E →
    wpAny (model X.prog X.w) X.A (matchCases cases X.env u fi) (SP X pins E) X.xe s
section
variable {X : Cx} {T : Tab}
theorem pcs_nil : PCs X T ek [] [] := ⟨fun pins s σ H S τ g d v u fi DD E I sr r rv q o => wpAny_matchCases_nil ⟨σ, H, I, o.nx S.P τ σ H sr q⟩⟩
/-- the names that a pattern binds, by slots -/
inductive NamesAt (X : Cx) : List Str → List Nat → Prop
  | nil : NamesAt X [] []
  | cons {n : Str} {ns : List Str} {i : Nat} {is : List Nat} (hi : X.N[i]? = some n) (hx : Loc X.env.scope n) (hf : X.fn n = true ∨ X.env.scope.names.lookup n = some .local) (t : NamesAt X ns is) : NamesAt X (n :: ns) (i :: is)
theorem bind_all (hN : X.N.Nodup) {pins : List (Addr × Obj)} {H : Hp} {S : Sit} {g : Nat} {E : Value → Shared → Prop} : ∀ {ns : List Str} {is : List Nat} {caps : Caps} {bs : List (Str × Value)} {τ : DSt} {σ : L2.St} {s : Shared} {R : DSt → Prop} {Q : Unit → Shared → Prop}, NamesAt X ns is → caps.map (·.1) = ns →
    CapR X.K T S.B (gset S g) H caps bs → Inv X pins σ H s → SR X.K T S τ σ H → setAll g is caps τ R → (∀ s' τ' σ', Inv X pins σ' H s' → SR X.K T S τ' σ' H → R τ' → Q () s') →
    wpAny (model X.prog X.w) X.A (assignInOrder (bs.map fun (n, _) => bindName X.env n) (bs.map (·.2))) Q E s := by
  intro ns is caps
  induction caps generalizing ns is with
  | nil =>
    intro bs τ σ s R Q hn e cr I sr q k
    cases cr
    cases hn with
    | nil => exact wpAny_assignInOrder_none (k s τ σ I sr q)
    | cons hi hx hf t => cases e
  | cons c caps ih =>
    intro bs τ σ s R Q hn e cr I sr q k
    cases cr with
    | cons c1 c2 =>
      cases hn with
      | nil => cases e
      | cons hi hx hf t =>
        obtain ⟨e1, v, rp, rv⟩ := c1
        obtain ⟨q1, q2⟩ := q
        have en : _ = _ := (List.cons.inj e).1
        refine wpAny_assignInOrder_more ?_
        rename_i b bs' n ns' i is'
        obtain ⟨bn, bv⟩ := b
        have e1 : c.1 = bn := e1
        subst e1
        subst en
        refine wpAny_bindName (store_ok I hN hi hx rv (fun s2 I2 => ?_) hf)
        exact ih t (List.cons.inj e).2 c2 I2 (sr.setV (Nat.le_of_ble_eq_true q1) (RepG.up rp)) q2 k
theorem pcs_cons {p : Pattern} {body : List Stmt} {rest : List MatchCase} {dp : DP} {ix : List Nat} {ns : List Str} {tb : DTS} {cs : List DCase} (hN : X.N.Nodup) (hp : PPat X T p dp) (hn : NamesAt X ns ix) (hd : ∀ d caps, patD dp d = some caps → caps.map (·.1) = ns) (hb : PSs X body (UpS X.K T ek tb)) (hr : PCs X T ek rest cs) :
    PCs X T ek (⟨p, none, body⟩ :: rest) (⟨dp, ix, tb⟩ :: cs) := ⟨fun pins s σ H S τ g d v u fi DD E I sr r rv q o => by
  obtain ⟨q1, q2⟩ := q
  refine wpAny_matchCases_cons (hp.run pins s σ H S.B (gset S g) d v u _ I r rv q1 fun s' I' => ?_)
  have q2 : (match patD dp d with | some caps => setAll g ix caps τ (fun τ' => tb DD τ') | none => caseRec g d DD cs τ) := q2
  cases e : patD dp d with
  | none =>
    rw [e] at q2
    exact hr.run pins s' σ H S τ g d v u false DD E I' sr r rv q2 o
  | some caps =>
    rw [e] at q2
    intro bs hb'
    exact bind_all hN hn (hd d caps e) hb' I' sr q2 fun s2 τ2 σ2 I2 s2' q3 => hb.run pins s2 σ2 H E I2 ⟨S, τ2, DD, s2', q3, o⟩⟩
theorem ds_match {e : Expr} {cases : List MatchCase} {te : DTE} {cs : List DCase} {pos : Pos} (he : PE X e (UpE X.K T te)) (hc : PCs X T ek cases cs) : PS X (.Match e cases pos) (UpS X.K T ek (dMatch te cs)) :=
  ⟨fun pins s σ H E I ⟨S, τ, DD, sr, h, o⟩ => wpAny_Match (thn (he.run pins s σ H (fun v H' => ∃ g d, Aft X.K T S H H' ∧ RepG X.K T S g H' d v ∧ caseRec g d DD cs τ) I ⟨S, τ, _, sr, h, fun H' v sl a r q => ⟨sl.g, sl.d, a, r.g sr, q⟩⟩) fun u s1 ⟨v, H1, I1, rv, g, d, a, r, q⟩ => hc.run pins s1 σ H1 S τ g d v u true DD E I1 (sr.aft a) r rv q o)⟩
end
end DL
/-! DL10: defs by their names: what a caller needs of each. -/
namespace DL
open PySem PySem.Spec PyProof.Rows L2
structure Fn (P : Program) (w : World) (K : PySem.W.Frag) (T : Tab) (mg : Str → Option Value) (base : Heap) (x : Str) (k : Nat) (dd : List D) (C : Ctr) : Prop where
  ex : ∃ (f : Addr) (fd : FuncData) (ps : List Str) (ds : List Value) (dvs : List V), mg x = some (.ref f) ∧ PySem.W.keepIn K (.ref f) = true ∧ Binds K fd ps ds ∧ Vals dvs ds ∧ isScs dd dvs ∧ FnOk P w K mg base CX0 k f fd ps (spC K T C)
structure Mt (P : Program) (w : World) (K : PySem.W.Frag) (T : Tab) (mg : Str → Option Value) (base : Heap) (c : Nat) (m : Str) (k : Nat) (dd : List D) (C : Ctr) : Prop where
  ex : ∃ (f : Addr) (fd : FuncData) (ps : List Str) (ds : List Value) (dvs : List V), Cls K (T c).1 ∧ Meth K (T c).1 m f ∧ m ∉ (T c).2 ∧ Binds K fd ps ds ∧ Vals dvs ds ∧ isScs dd dvs ∧ FnOk P w K mg base CX0 k f fd ps (spC K T C)
structure Mkr (P : Program) (w : World) (K : PySem.W.Frag) (T : Tab) (mg : Str → Option Value) (base : Heap) (x : Str) (c k : Nat) (dd : List D) (C : CtrI) : Prop where
  ex : ∃ (f : Addr) (fd : FuncData) (ps : List Str) (ds : List Value) (dvs : List V), Mk K (T c).1 f ∧ mg x = some (.ref (T c).1) ∧ Binds K fd ps ds ∧ Vals dvs ds ∧ isScs dd dvs ∧ FnOk P w K mg base CX0 k f fd ps (spI K T c C)
section
variable {X : Cx} {T : Tab} {x m : Str} {k c : Nat} {dd : List D} {C : Ctr} {Ci : CtrI} {p pos apos : Pos} {e o : Expr} {es : List Expr} {to : DTE} {t : DTA}
theorem pass0' {X : Cx} : Passes CX0 X (fun _ _ _ => True) := fun _ _ _ _ _ _ _ h => h.elim
theorem de_fn (F : Fn X.prog X.w X.K T X.mg X.base x k dd C) (hr : Room k X.A) (hg : Gl X x) (ha : PA X (e :: es) (UpA X.K T t)) (hdb : (x == ("__debug__" : Str)) = false := by decide) (he : starEach (e :: es) X.env = (false, eval e X.env) :: starEach es X.env := by rfl)
    (hpl : (backTo pos (starEach es X.env)).any (·.1) = false := by rfl) : PE X (.Call (.Name x p) (e :: es) [] pos) (UpE X.K T (dCall C dd t)) := by
  obtain ⟨f, fd, ps, ds, dvs, h1, h2, h3, h4, h5, h6⟩ := F.ex
  exact de_call h6 hr hg h1 h2 h3 h4 pass0' h5 ha hdb he hpl
theorem de_fn0 (F : Fn X.prog X.w X.K T X.mg X.base x k dd C) (hr : Room k X.A) (hg : Gl X x) (hdb : (x == ("__debug__" : Str)) = false := by decide) : PE X (.Call (.Name x p) [] [] pos) (UpE X.K T (dCall C dd aNil)) := by
  obtain ⟨f, fd, ps, ds, dvs, h1, h2, h3, h4, h5, h6⟩ := F.ex
  exact de_call0 h6 hr hg h1 h2 h3 h4 pass0' h5 hdb
theorem de_mt {pl : Sem Bool} (F : Mt X.prog X.w X.K T X.mg X.base c m k dd C) (hr : Room k X.A) (he : PE X o (UpE X.K T to)) (ha : PA X (e :: es) (UpA X.K T t))
    (hst : starEach (e :: es) X.env = (false, eval e X.env) :: starEach es X.env := by rfl) (hpl : (backTo pos (starEach es X.env)).any (·.1) = false := by rfl)
    (ht : eval (.Call (.Attribute o m apos) (e :: es) [] pos) X.env = (do
      let ov ← eval o X.env
      standAt apos.atName
      let (f, first) ← holding [ov] (getMethod ov m pl)
      callWith pos f first (backTo pos (starEach (e :: es) X.env)) (backToKw pos (keywordEach [] X.env))) := by rfl) :
    PE X (.Call (.Attribute o m apos) (e :: es) [] pos) (UpE X.K T (dMeth c C dd to t)) := by
  obtain ⟨f, fd, ps, ds, dvs, h1, h2, h3, h4, h5, h6, h7⟩ := F.ex
  exact de_meth he h1 h2 h3 h7 hr h4 h5 pass0' h6 ha hst hpl ht
theorem de_mt0 {pl : Sem Bool} (F : Mt X.prog X.w X.K T X.mg X.base c m k dd C) (hr : Room k X.A) (he : PE X o (UpE X.K T to))
    (ht : eval (.Call (.Attribute o m apos) [] [] pos) X.env = (do
      let ov ← eval o X.env
      standAt apos.atName
      let (f, first) ← holding [ov] (getMethod ov m pl)
      callWith pos f first (backTo pos (starEach [] X.env)) (backToKw pos (keywordEach [] X.env))) := by rfl) :
    PE X (.Call (.Attribute o m apos) [] [] pos) (UpE X.K T (dMeth c C dd to aNil)) := by
  obtain ⟨f, fd, ps, ds, dvs, h1, h2, h3, h4, h5, h6, h7⟩ := F.ex
  exact de_meth0 he h1 h2 h3 h7 hr h4 h5 pass0' h6 ht
theorem de_mk (F : Mkr X.prog X.w X.K T X.mg X.base x c k dd Ci) (hr : Room (k + 1) X.A) (hg : Gl X x) (ha : PA X (e :: es) (UpA X.K T t)) (hdb : (x == ("__debug__" : Str)) = false := by decide) (he : starEach (e :: es) X.env = (false, eval e X.env) :: starEach es X.env := by rfl)
    (hpl : (backTo pos (starEach es X.env)).any (·.1) = false := by rfl) : PE X (.Call (.Name x p) (e :: es) [] pos) (UpE X.K T (dMake c Ci dd t)) := by
  obtain ⟨f, fd, ps, ds, dvs, h1, h2, h3, h4, h5, h6⟩ := F.ex
  exact de_make h1 h6 hr hg h2 h3 h4 pass0' h5 ha hdb he hpl
end
/-- a def's entry in a head, its contract: what its callers need -/
theorem fn_mk {P : Program} {w : World} {K : PySem.W.Frag} {T : Tab} {mg : Str → Option Value} {base : Heap} {x qual : Str} {params : Arguments} {body : List Stmt} {scope : Scope} {f : Addr} {fd : FuncData} {ps : List Str} {k : Nat} {C : Ctr}
    (F : FunD K x qual params body scope [] [] f fd) (hm : mg x = some (.ref f)) (ok : FnOk P w K mg base CX0 k f fd ps (spC K T C))
    (hb : ∀ (kV doc pm : Value) (an : Option Addr) (cdv ct : Value) (us : List Value), us.length = ps.length → bindArgs (PySem.W.fnOf x qual params body scope .none kV doc pm an cdv ct) ⟨us, []⟩ = pure (ps.zip us)) : Fn P w K T mg base x k [] C :=
  ⟨f, fd, ps, [], [], hm, F.kp, F.bindsN hb, .nil, rfl, ok⟩
end DL
/-! DL11: several targets, stars in displays, comprehensions over a range, all, any, enumerate. -/
namespace DL
open PySem PySem.Spec PyProof.Rows L2
section
variable {K : PySem.W.Frag} {T : Tab} {S : Sit} {τ : DSt} {σ : L2.St} {H H1 H2 : Hp}
/-- a new list, held by no slot yet -/
theorem SR.addQ {p : Addr} (sr : SR K T S τ σ H) (a : Aft K T S H H1) (hp : Nv H p) (h1 : Lv H1 p) : SR K T { S with P := fun c => S.P c ∨ c = p } τ σ H1 := by
  have np : ¬ S.P p := sr.newP hp
  have s1 := sr.aft a
  have sub : ∀ g c, gset { S with P := fun c => S.P c ∨ c = p } g c → gset S g c ∨ c = p := fun g c z => match g, z with
    | 0, z => .inl z
    | 1, z => z
    | _ + 2, z => Or.elim z (fun z => Or.elim z (fun z => .inl (.inl z)) .inr) fun z => .inl (.inr z)
  have gg : ∀ (g : Nat) (d : D) (v : V), RepG K T S g H d v → Rep K T S.B (gset { S with P := fun c => S.P c ∨ c = p } g) H1 d v := fun g d v q =>
    Rep.anti (sub g) d v (Rep.kp a.kp (fun c z => .inl (sr.gsub g c z)) d v (Rep.new hp d v q))
  have ggs : ∀ (ds : List D) (vs : List V), RepsG K T S 2 H ds vs → Reps K T S.B (gset { S with P := fun c => S.P c ∨ c = p } 2) H1 ds vs := fun ds vs q =>
    Reps.anti (sub 2) ds vs (Reps.kp a.kp (fun c z => .inl (sr.gsub 2 c z)) ds vs (Reps.new hp ds vs q))
  refine ⟨sr.len, fun c z => .inl (sr.bp c z), fun c z => ?_, sr.ml, s1.kp, fun c z => ⟨.inl (sr.xp c z).1, (sr.xp c z).2⟩, fun c z q q' => ?_, sr.bl, a.bag, fun b e z => ?_, fun j g d e => ?_, fun j es e => ?_, fun j c es e => ?_, fun x hx => ⟨(sr.gh x hx).1, gg _ _ _ (sr.gh x hx).2⟩, sr.inj⟩
  · rcases z with z | z
    · exact s1.al c z
    · rw [z]; exact h1
  · rcases z with z | z
    · exact sr.fr c z q q'
    · rw [z]; exact sr.new0 hp
  · rcases z with z | z
    · exact sr.lp b e z
    · obtain ⟨_, ns, _, _, _, _, _, h2, _⟩ := sr.bag.bg b e
      exact hp (Lv.of (z ▸ h2))
  · obtain ⟨h1, v, h2, h3⟩ := sr.val j g d e
    exact ⟨h1, v, h2, gg g d v h3⟩
  · obtain ⟨q, ws, e1, e2, e3, e4, e5, h⟩ := sr.own j es e
    exact ⟨q, ws, e1, a.kp.k q _ e2 e4, .inl e3, e4, e5, ggs es ws h⟩
  · obtain ⟨z, q, dx, ws, e1, e2, e3, h⟩ := sr.ins j c es e
    exact ⟨z, q, dx, ws, e1, a.kp.k q _ e2 (sr.xp q e3).2 insO_noT, e3, ggs es ws h⟩
/-- a slot takes such a list -/
theorem SR.setQ {i : Nat} {p : Addr} {ds : List D} {vs : List V} (sr : SR K T S τ σ H) (e3 : S.P p) (e4 : S.B ≠ some p) (e5 : S.X ≠ some p) (e2 : H p = some (.lst vs)) (r : RepsG K T S 2 H ds vs) (no : ∀ (j : Nat) (es : List D), τ[j]? = some (.own es) → σ[j]? ≠ some (some (.ref p))) :
    SR K T S (τ.set i (.own ds)) (σ.set i (some (.ref p))) H := by
  have off : ∀ {j : Nat} {s : Sl}, i ≠ j → (τ.set i (.own ds))[j]? = some s → τ[j]? = some s := fun {j s} hj e => by
    rw [List.getElem?_set_ne hj] at e; exact e
  refine ⟨by rw [List.length_set, List.length_set]; exact sr.len, sr.bp, sr.al, sr.ml, sr.kp, sr.xp, sr.fr, sr.bl, sr.bag, sr.lp, fun j g d e => ?_, fun j es e => ?_, fun j c es e => ?_, sr.gh, fun j k es fs q q1 q2 q3 q4 => ?_⟩
  · by_cases hj : i = j
    · subst hj; cases (set_at e).2
    · obtain ⟨hg, v, q1, h⟩ := sr.val j g d (off hj e)
      exact ⟨hg, v, by rw [List.getElem?_set_ne hj]; exact q1, h⟩
  · by_cases hj : i = j
    · subst hj
      obtain ⟨hi, q⟩ := set_at e
      cases q
      exact ⟨p, vs, List.getElem?_set_self (by rw [← sr.len]; exact hi), e2, e3, e4, e5, r⟩
    · obtain ⟨q, ws, q1, h⟩ := sr.own j es (off hj e)
      exact ⟨q, ws, by rw [List.getElem?_set_ne hj]; exact q1, h⟩
  · by_cases hj : i = j
    · subst hj; cases (set_at e).2
    · obtain ⟨z, q, dx, ws, q1, h⟩ := sr.ins j c es (off hj e)
      exact ⟨z, q, dx, ws, by rw [List.getElem?_set_ne hj]; exact q1, h⟩
  · by_cases hj : i = j
    · by_cases hk : i = k
      · rw [← hj, ← hk]
      · subst hj
        have hi := (set_at q1).1
        rw [List.getElem?_set_self (by rw [← sr.len]; exact hi)] at q3
        cases q3
        rw [List.getElem?_set_ne hk] at q4
        exact absurd q4 (no k fs (off hk q2))
    · by_cases hk : i = k
      · subst hk
        have hi := (set_at q2).1
        rw [List.getElem?_set_self (by rw [← sr.len]; exact hi)] at q4
        cases q4
        rw [List.getElem?_set_ne hj] at q3
        exact absurd q3 (no j es (off hj q1))
      · rw [List.getElem?_set_ne hj] at q3
        rw [List.getElem?_set_ne hk] at q4
        exact sr.inj j k es fs q (off hj q1) (off hk q2) q3 q4
theorem SR.noOwn {p : Addr} (sr : SR K T S τ σ H) (hp : Nv H p) : ∀ (j : Nat) (es : List D), τ[j]? = some (.own es) → σ[j]? ≠ some (some (.ref p)) := fun j es e z => by
  obtain ⟨q, ws, e1, e2, _⟩ := sr.own j es e
  rw [e1] at z
  rw [V.ref.inj (Option.some.inj (Option.some.inj z))] at e2
  exact hp (Lv.of e2)
end
/-! ### a, b = x, y -/
@[simp] def slW (o : Bool) (i : Nat) (τ : DSt) (R : DSt → Prop) (s : Sl) : Prop := match o with
  | true => setOQ i τ R s
  | false => setQ i τ R s
@[simp] def dPar (i j : Nat) (oi oj : Bool) (ta tb : DTE) : DTS := fun E τ => ta τ fun x => tb τ fun y => slW oi i τ (fun τ1 => slW oj j τ1 E.nx y) x
section
variable {X : Cx} {T : Tab} {a b : Expr} {ta tb : DTE} {x y : Str} {i j : Nat} {pos px py pt pt2 : Pos} {kt k2 : Nat}
/-- the second of two targets -/
theorem par_snd {K : PySem.W.Frag} {S S0 : Sit} {τ : DSt} {σ : L2.St} {H1 H2 : Hp} {oj : Bool} {y : Sl} {u : V} {DD : DEnds} {E : Ends} (hS : ∃ P', S = { S0 with P := P' }) (sr : SR K T S τ σ H1) (a2 : Aft K T S H1 H2) (r2 : RepSl K T S H1 H2 y u) (q : slW oj j τ DD.nx y) (o : Out K T ek S0 DD E) : E.nx (σ.set j (some u)) H2 := by
  obtain ⟨P', rfl⟩ := hS
  cases oj with
  | false =>
    cases y with
    | v g' d' => exact o.nx P' _ _ H2 ((sr.aft a2).setV (Nat.le_of_ble_eq_true q.1) (RepG.up r2)) q.2
    | own ds => exact o.nx P' _ _ H2 ((sr.aft a2).setV (g := 2) (d := .lst ds) (by decide) (r2.g sr)) q
    | _ => exact (show False from q).elim
  | true =>
    cases y with
    | own ds =>
      obtain ⟨p, vs, rfl, h1, h2, h3⟩ := r2
      exact o.nx _ _ _ H2 (sr.setO a2 h1 h2 h3) q
    | _ => exact (show False from q).elim
/-- behind the first value: the situation in which the second is reckoned -/
theorem par_go {K : PySem.W.Frag} {S : Sit} {τ : DSt} {σ : L2.St} {H H1 : Hp} {oi oj : Bool} {x : Sl} {v : V} {DD : DEnds} {E : Ends} (sr : SR K T S τ σ H) (a1 : Aft K T S H H1) (r1 : RepSl K T S H H1 x v) (q : tb τ fun y => slW oi i τ (fun τ1 => slW oj j τ1 DD.nx y) x) (o : Out K T ek S DD E) :
    UpE K T tb σ H1 fun u H2 => E.nx ((σ.set i (some v)).set j (some u)) H2 := by
  have s1 := sr.aft a1
  cases oi with
  | false =>
    refine ⟨S, τ, _, s1, q, fun H2 u y a2 r2 q2 => ?_⟩
    have h1 : ∃ g d, 1 ≤ g ∧ RepG K T S g H1 d v ∧ slW oj j (τ.set i (.v g d)) DD.nx y := by
      cases x with
      | v g d => exact ⟨_, d, Nat.le_of_ble_eq_true q2.1, RepG.up r1, q2.2⟩
      | own ds => exact ⟨2, .lst ds, by decide, r1.g sr, q2⟩
      | _ => exact (show False from q2).elim
    obtain ⟨g, d, hg, rv, q3⟩ := h1
    exact par_snd ⟨S.P, rfl⟩ (s1.setV (i := i) hg rv) a2 r2 q3 o
  | true =>
    cases x with
    | own ds =>
      obtain ⟨p, vs, rfl, h1, h2, h3⟩ := r1
      have sq := sr.addQ a1 h1 (Lv.of h2)
      have nB : S.B ≠ some p := fun z => sr.newP h1 (sr.bp p z)
      have nX : S.X ≠ some p := fun z => sr.newP h1 (sr.xp p z).1
      have si := sq.setQ (i := i) (p := p) (ds := ds) (.inr rfl) nB nX h2 (Reps.anti (fun c z => Or.elim z (fun z => Or.elim z (fun z => .inl (.inl z)) .inr) fun z => .inl (.inr z)) ds vs h3) (sr.noOwn h1)
      exact ⟨_, τ, _, sq, q, fun H2 u y a2 r2 q2 => par_snd ⟨_, rfl⟩ si a2 r2 q2 o⟩
    | v g d =>
      refine ⟨S, τ, _, s1, q, fun H2 u y a2 r2 q2 => (show False from q2).elim⟩
    | un =>
      refine ⟨S, τ, _, s1, q, fun H2 u y a2 r2 q2 => (show False from q2).elim⟩
    | ins c ds =>
      refine ⟨S, τ, _, s1, q, fun H2 u y a2 r2 q2 => (show False from q2).elim⟩
theorem ds_par {oi oj : Bool} (hc : X.calm = true) (hN : X.N.Nodup) (hi : X.N[i]? = some x) (hj : X.N[j]? = some y) (hij : i ≠ j) (hx : X.env.scope.names.lookup x = some .local) (hy : X.env.scope.names.lookup y = some .local) (ha : PE X a (UpE X.K T ta)) (hb : PE X b (UpE X.K T tb))
    (hw : swappedStores [.Tuple [.Name x px, .Name y py] kt pt] (.Tuple [a, b] k2 pt2) X.env = pure (some [x, y])) (hs : swapsWithSole [.Tuple [.Name x px, .Name y py] kt pt] (.Tuple [a, b] k2 pt2) pos.line X.env = pure false := by rfl) (hs1 : starEach [a, b] X.env = (false, eval a X.env) :: starEach [b] X.env := by rfl) (hs2 : starEach [b] X.env = (false, eval b X.env) :: starEach [] X.env := by rfl) :
    PS X (.Assign [.Tuple [.Name x px, .Name y py] kt pt] (.Tuple [a, b] k2 pt2) pos) (UpS X.K T ek (dPar i j oi oj ta tb)) :=
  (ps_par hc hN hi hj hij hx hy (pa_cons ha (pa_cons hb pa_nil hs2) hs1) hw hs).of fun E σ H ⟨S, τ, DD, sr, h, o⟩ => ⟨S, τ, _, sr, h, fun H1 v s1 a1 r1 q1 => by
    obtain ⟨S', τ', QD, sr', h', k'⟩ := par_go sr a1 r1 q1 o
    exact ⟨S', τ', QD, sr', h', fun H2 u y a2 r2 q2 => ⟨v, u, rfl, k' H2 u y a2 r2 q2⟩⟩⟩
/-- target = value, any target -/
@[simp] def dAsg (te : DTE) (tg : DTG) : DTS := fun E τ => te τ fun s => tg s.g s.d τ E.nx
theorem ds_asg {tg e : Expr} {te : DTE} {tgd : DTG} (he : PE X e (UpE X.K T te)) (hg : PG X tg (UpG X.K T tgd)) (hs : swapsWithSole [tg] e pos.line X.env = pure false := by rfl) (hw : swappedStores [tg] e X.env = pure none := by rfl)
    (h1 : (assignEach [tg] X.env).map (·.2) = [assign tg X.env] := by rfl) : PS X (.Assign [tg] e pos) (UpS X.K T ek (dAsg te tgd)) :=
  (ps_asg he hg hs hw h1).of fun E σ H ⟨S, τ, DD, sr, h, o⟩ => ⟨S, τ, _, sr, h, fun H1 v s a r q => ⟨S, τ, s.g, s.d, _, sr.aft a, r.g sr, q, fun τ' σ' H' s' _ q' => o.nx S.P τ' σ' H' s' q'⟩⟩
/-- stars in displays -/
@[simp] def aStar (te : DTE) (tr : DTA) : DTA := fun τ Q => te τ fun s => match elems s.d with
  | some ds => tr τ fun g es => Q (min (upl s.g ds) g) (ds ++ es)
  | none => False
theorem da_star {e : Expr} {es : List Expr} {te : DTE} {t : DTA} {p : Pos} (he : PE X e (UpE X.K T te)) (hr : PA X es (UpA X.K T t)) (hs : starEach (.Starred e p :: es) X.env = (true, eval e X.env) :: starEach es X.env := by rfl) : PA X (.Starred e p :: es) (UpA X.K T (aStar te t)) :=
  (StX.pa_star he hr hs).of fun σ H Q ⟨S, τ, QD, sr, h, k⟩ => ⟨S, τ, _, sr, h, fun H1 v s a r q => by
    have s1 := sr.aft a
    have rg := r.g sr
    cases ed : elems s.d with
    | none => rw [ed] at q; exact q.elim
    | some ds =>
      rw [ed] at q
      obtain ⟨p, us, rfl, hsq, rs⟩ := Rep.el rg ed
      refine ⟨p, us, rfl, hsq.symm, S, τ, _, s1, q, fun H2 vs g es a2 r2 q2 => ?_⟩
      have s2 := s1.aft a2
      exact k H2 (us ++ vs) _ (ds ++ es) (a.trans a2) (Reps.append (RepsG.le s2 (Nat.min_le_left _ _) (s1.reps a2.kp (RepsG.upl rs))) (RepsG.le s2 (Nat.min_le_right _ _) r2)) q2⟩
end
/-! ### all, any, sum -/
@[simp] def bools : List D → Option (List Bool)
  | [] => some []
  | .bl b :: ds => match bools ds with
    | some bs => some (b :: bs)
    | none => none
  | _ :: _ => none
@[simp] def fAll : DCB := fun _ ds Q => match ds with
  | [.lst es] => match bools es with
    | some bs => Q (.v 2 (.bl (bs.all id)))
    | none => False
  | _ => False
@[simp] def fAny : DCB := fun _ ds Q => match ds with
  | [.lst es] => match bools es with
    | some bs => Q (.v 2 (.bl (bs.any id)))
    | none => False
  | _ => False
section
variable {K : PySem.W.Frag} {T : Tab}
theorem bools_rep {B : Option Addr} {M : Addr → Prop} {H : Hp} : ∀ {es : List D} {bs : List Bool} {vs : List V}, bools es = some bs → Reps K T B M H es vs → vs = bs.map V.bl
  | [], bs, vs, e, r => by
    cases e
    exact r
  | .bl b :: ds, bs, vs, e, ⟨v, r, e1, h1, h2⟩ => by
    unfold bools at e
    cases eb : bools ds with
    | none => rw [eb] at e; cases e
    | some bs' =>
      rw [eb] at e
      cases e
      rw [e1, show v = V.bl b from h1, bools_rep eb h2]
      rfl
  | .non :: _, _, _, e, _ => by cases e
  | .int _ :: _, _, _, e, _ => by cases e
  | .str _ :: _, _, _, e, _ => by cases e
  | .tup _ :: _, _, _, e, _ => by cases e
  | .lst _ :: _, _, _, e, _ => by cases e
  | .obj _ _ :: _, _, _, e, _ => by cases e
  | .bag :: _, _, _, e, _ => by cases e
  | .cls _ :: _, _, _, e, _ => by cases e
  | .lat _ _ :: _, _, _, e, _ => by cases e
  | .scr _ :: _, _, _, e, _ => by cases e
  | .exn _ _ _ _ :: _, _, _, e, _ => by cases e
theorem cb_all : CBD K T (rAll K) fAll := by
  intro S τ σ H g ds vs QD Q sr r q k
  unfold fAll at q
  split at q
  · rename_i es
    obtain ⟨v, rfl, r0⟩ := r.one'
    obtain ⟨p, us, rfl, e1, e2, rs⟩ := r0
    split at q
    · rename_i bs eb
      have eu := bools_rep eb rs
      subst eu
      exact ⟨p, bs, rfl, SqL.of e1, k H _ (.v 2 (.bl _)) sr.same rfl q⟩
    · exact q.elim
  · exact q.elim
theorem cb_any : CBD K T (rAny K) fAny := by
  intro S τ σ H g ds vs QD Q sr r q k
  unfold fAny at q
  split at q
  · rename_i es
    obtain ⟨v, rfl, r0⟩ := r.one'
    obtain ⟨p, us, rfl, e1, e2, rs⟩ := r0
    split at q
    · rename_i bs eb
      have eu := bools_rep eb rs
      subst eu
      exact ⟨p, bs, rfl, SqL.of e1, k H _ (.v 2 (.bl _)) sr.same rfl q⟩
    · exact q.elim
  · exact q.elim
end
/-! ### comprehensions over a range -/
@[simp] def dLcR (ta : DTA) (tg : DTG) (tt : DTT) (te : DTE) (vs : List Nat) : DTE := fun τ Q => ta τ fun _ ds => match ds with
  | [.int j] => (-(2 ^ 62) ≤ j ∧ j < 2 ^ 62) ∧ compRec 2 tg tt te (wipeD τ vs) Q (rangeL 0 j.toNat) []
  | _ => False
@[simp] def dLcR2 (ta : DTA) (tg : DTG) (tt : DTT) (te : DTE) (vs : List Nat) : DTE := fun τ Q => ta τ fun _ ds => match ds with
  | [.int i, .int j] => (-(2 ^ 62) ≤ i ∧ i < 2 ^ 62 ∧ -(2 ^ 62) ≤ j ∧ j < 2 ^ 62) ∧ compRec 2 tg tt te (wipeD τ vs) Q (rangeL i (j - i).toNat) []
  | _ => False
section
variable {X : Cx} {T : Tab} {ta : DTA} {tgd : DTG} {tt : DTT} {te : DTE} {vs : List Nat} {σ : L2.St} {H : Hp} {Q : VK} {K : PySem.W.Frag}
theorem lcr_core {S : Sit} {τ : DSt} {QD : Sl → Prop} {H1 : Hp} {lo : Int} {n : Nat} (s1 : SR K T S τ σ H1) (q : compRec 2 tgd tt te (wipeD τ vs) QD (rangeL lo n) []) (k1 : ∀ H' v sl, Aft K T S H1 H' → RepSl K T S H1 H' sl v → QD sl → Q v H') {L : Addr} (hL : H1 L = none) :
    ∃ W : Nat → Nat → Hp → Prop, (∃ m, W 0 m (upd H1 L (.lst []))) ∧ ∀ i m H, W i m H →
      ((Itr lo n).stop i H ∧ Q (.ref L) H) ∨ ((Itr lo n).go i H ∧ ∃ Nx : Hp → Prop, (∀ H', Nx H' → ∃ m', m' < m ∧ W (i + 1) m' H') ∧ ∀ x H', (Itr lo n).yld i H x H' → UpGw K T vs tgd x (wipe σ vs) H' fun σ2 H2 => wipe σ2 vs = wipe σ vs ∧ UpT K T tt σ2 H2 fun b H3 =>
        if b = true then UpE K T te σ2 H3 fun y H4 => ∃ acc, H4 L = some (.lst acc) ∧ acc.length < sizeLine ∧ Nx (upd H4 L (.lst (acc ++ [y]))) else Nx H3) :=
  lc_core' (C := fun _ => True) s1 hL (fun _ _ => trivial) (fun i H' hi _ => by rw [rangeL_len] at hi; exact hi) (fun i H' x H'' _ y => ⟨y.1, fun d hd => by
    rw [rangeL_get n lo i d hd, y.2]
    exact rfl⟩) (fun H' _ => by
    show n ≤ (rangeL lo n).length
    rw [rangeL_len]; exact Nat.le_refl _) q k1
theorem lc_up1 (h : UpE K T (dLcR ta tgd tt te vs) σ H Q) : tLc (iRng1 (UpA K T ta)) (UpGw K T vs tgd) (UpT K T tt) (UpE K T te) vs σ H Q := by
  obtain ⟨S, τ, QD, sr, h, k⟩ := h
  refine ⟨S, τ, _, sr, h, fun H1 us g ds a r q => ?_⟩
  split at q
  · rename_i j
    obtain ⟨v, rfl, r0⟩ := r.one'
    obtain ⟨⟨q1, q2⟩, q⟩ := q
    exact ⟨j, by rw [show v = V.int j from r0], q1, q2, fun L hL => lcr_core (sr.aft a) q (fun H' v sl a' r' q' => k H' v sl (a.trans a') (r'.back a) q') hL⟩
  · exact q.elim
theorem lc_up2 (h : UpE K T (dLcR2 ta tgd tt te vs) σ H Q) : tLc (iRng2 (UpA K T ta)) (UpGw K T vs tgd) (UpT K T tt) (UpE K T te) vs σ H Q := by
  obtain ⟨S, τ, QD, sr, h, k⟩ := h
  refine ⟨S, τ, _, sr, h, fun H1 us g ds a r q => ?_⟩
  split at q
  · rename_i i j
    obtain ⟨v, u, rfl, r1, r2⟩ := r.two
    obtain ⟨q1, q⟩ := q
    exact ⟨i, j, by rw [show v = V.int i from r1, show u = V.int j from r2], q1, fun L hL => lcr_core (sr.aft a) q (fun H' v sl a' r' q' => k H' v sl (a.trans a') (r'.back a) q') hL⟩
  · exact q.elim
end
section
variable {X : Cx} {T : Tab} {elt tg iter a b : Expr} {ifs : List Expr} {scope : Scope} {own : List (Str × Nat)} {pos p1 p2 spos py : Pos} {ta : DTA} {tgd : DTG} {tt : DTT} {te : DTE} {wi : TI} {td : DTE} {i : Nat} {y : Str}
/-- a comprehension over whatever is walked (hu: how its reading comes from the data's) -/
theorem de_lcG (hu : ∀ σ H Q, UpE X.K T td σ H Q → tLc wi (UpGw X.K T (own.map (·.2)) tgd) (UpT X.K T tt) (UpE X.K T te) (own.map (·.2)) σ H Q) (hc : X.calm = true) (hN : X.N.Nodup) (hi : PI X tg iter wi) (ok : BlkOk X.N X.env.scope scope own)
    (hg : ∀ (s : Shared) (H : Hp) (C : Addr) (cl : List (Str × Addr)) (fp : List Addr), PG (X.blk s H scope (compEnvC scope cl C X.env) fp) tg (UpGw X.K T (own.map (·.2)) tgd)) (ht : ∀ (s : Shared) (H : Hp) (C : Addr) (cl : List (Str × Addr)) (fp : List Addr), PTs (X.blk s H scope (compEnvC scope cl C X.env) fp) ifs (UpT X.K T tt))
    (he : ∀ (s : Shared) (H : Hp) (C : Addr) (cl : List (Str × Addr)) (fp : List Addr), PE (X.blk s H scope (compEnvC scope cl C X.env) fp) elt (UpE X.K T te)) (hs : ∀ x, foldedSetIterable iter X.env x = pure x := by intro _; rfl) :
    PE X (.ListComp elt [⟨tg, iter, ifs, 0⟩] scope pos) (UpE X.K T td) := (pe_lc hc hN hi ok hg ht he hs).of hu
theorem ds_setLcG (hu : ∀ σ H Q, UpE X.K T td σ H Q → tLc wi (UpGw X.K T (own.map (·.2)) tgd) (UpT X.K T tt) (UpE X.K T te) (own.map (·.2)) σ H Q) (hc : X.calm = true) (hN : X.N.Nodup) (hy : X.N[i]? = some y) (hyl : X.env.scope.names.lookup y = some .local)
    (hsw : swapsWith (.ListComp elt [⟨tg, iter, ifs, 0⟩] scope pos) (some (.Name y py)) spos.line X.env = pure true) (hi : PI X tg iter wi) (ok : BlkOk X.N X.env.scope scope own)
    (hg : ∀ (s : Shared) (H : Hp) (C : Addr) (cl : List (Str × Addr)) (fp : List Addr), PG (X.blk s H scope (compEnvC scope cl C X.env) fp) tg (UpGw X.K T (own.map (·.2)) tgd)) (ht : ∀ (s : Shared) (H : Hp) (C : Addr) (cl : List (Str × Addr)) (fp : List Addr), PTs (X.blk s H scope (compEnvC scope cl C X.env) fp) ifs (UpT X.K T tt))
    (he : ∀ (s : Shared) (H : Hp) (C : Addr) (cl : List (Str × Addr)) (fp : List Addr), PE (X.blk s H scope (compEnvC scope cl C X.env) fp) elt (UpE X.K T te)) (hs : ∀ x, foldedSetIterable iter X.env x = pure x := by intro _; rfl) :
    PS X (.Assign [.Name y py] (.ListComp elt [⟨tg, iter, ifs, 0⟩] scope pos) spos) (UpS X.K T ek (dSet i td)) :=
  (ps_setLc hc hN hy hyl hsw hi ok hg ht he hs).of fun D σ H ⟨S, τ, DD, sr, h, o⟩ => hu _ _ _ ⟨S, τ, _, sr, h, fun H1 v sl a r q => out_set sr a r o q⟩
end
end DL
/-! DL12: what the printed derivations name. -/
namespace DL
open PySem PySem.Spec PyProof.Rows L2
theorem u64 {A : Around} {k : Nat} (hr : Room k A) : A.units + 64 < cLine := by have := hr.un; omega
theorem u65 {A : Around} {k : Nat} (hr : Room k A) : A.units + 65 < cLine := by have := hr.un; omega
abbrev fSub : DF2 := fI0 fun i j => .int (i - j)
abbrev fMod : DF2 := fI (fun _ j => 0 < j) fun i j => .int (i % j)
abbrev fDiv : DF2 := fI CDiv fun i j => .int (i / j)
abbrev fPow : DF2 := fI CPow fun i j => .int (i ^ j.toNat)
abbrev dNeg (ta : DTE) : DTE := fun τ Q => ta τ fun s => match s.d with | .int i => Q (.v 2 (.int (-i))) | _ => False
abbrev pLt : Int → Int → Bool := fun i j => decide (i < j)
abbrev pLe : Int → Int → Bool := fun i j => decide (i ≤ j)
abbrev pGt : Int → Int → Bool := fun i j => decide (j < i)
abbrev pGe : Int → Int → Bool := fun i j => decide (j ≤ i)
abbrev iAdd : Int → Int → Int := fun i j => i + j
abbrev iSub : Int → Int → Int := fun i j => i - j
@[simp] def dNever : DTS := fun _ _ => False
/-- names of the module that are built-ins -/
structure Bl (mg : Str → Option Value) : Prop where
  len_ : mg "len" = none
  range_ : mg "range" = none
  list_ : mg "list" = none
  tuple_ : mg "tuple" = none
  int_ : mg "int" = none
  max_ : mg "max" = none
  min_ : mg "min" = none
  all_ : mg "all" = none
  any_ : mg "any" = none
  enumerate_ : mg "enumerate" = none
  isinstance_ : mg "isinstance" = none
  sorted_ : mg "sorted" = none
  set_ : mg "set" = none
  sum_ : mg "sum" = none
  str_ : mg "str" = none
  repr_ : mg "repr" = none
  bool_ : mg "bool" = none
section
variable {X : Cx} {T : Tab}
theorem ds_never {st : Stmt} : PS X st (UpS X.K T ek dNever) := ps_never.of fun _ _ _ ⟨_, _, _, _, h, _⟩ => h.elim
theorem dt_chain {a b c : Expr} {pos : Pos} {ta tb tc : DTE} {op op' : CmpOp} {p q : Int → Int → Bool} (ho : OpR X (compareOp op) (rI0 fun i j => .bl (p i j))) (ho' : OpR X (compareOp op') (rI0 fun i j => .bl (q i j))) (ha : PE X a (UpE X.K T ta)) (hb : PE X b (UpE X.K T tb)) (hc : PE X c (UpE X.K T tc))
    (hm : PT X (.Compare a [op, op'] [b, c] pos) (tTest (tChain (rI0 fun i j => .bl (p i j)) (rI0 fun i j => .bl (q i j)) (UpE X.K T ta) (UpE X.K T tb) (UpE X.K T tc)))) : PT X (.Compare a [op, op'] [b, c] pos) (UpT X.K T (tV (dChain p q ta tb tc))) :=
  hm.of fun σ H Q ⟨S, τ, QD, sr, h, k⟩ => ⟨S, τ, _, sr, h, fun H1 v x a1 r1 q1 => ⟨S, τ, _, sr.aft a1, q1, fun H2 u y a2 r2 q2 => by
    have s1 := sr.aft a1
    have s2 := s1.aft a2
    have r1' := s1.rep a2.kp (r1.g sr)
    have r2' := r2.g s1
    split at q2
    · rename_i i j e1 e2
      rw [e1] at r1'
      rw [e2] at r2'
      refine ⟨i, j, r1', r2', p i j, rfl, ?_⟩
      cases hp : p i j with
      | false =>
        rw [hp] at q2
        exact ⟨false, rfl, k H2 false (a1.trans a2) q2⟩
      | true =>
        rw [hp] at q2
        refine ⟨S, τ, _, s2, q2, fun H3 w z a3 r3 q3 => ?_⟩
        have r3' := r3.g s2
        split at q3
        · rename_i n e3
          rw [e3] at r3'
          exact ⟨j, n, (by rw [r2']), r3', q j n, rfl, k H3 _ (a1.trans (a2.trans a3)) q3⟩
        · exact q3.elim
    · exact q2.elim⟩⟩
end
/-! the names that a pattern binds, in order -/
mutual
def pNames : DP → Option (List Str)
  | .val _ => some []
  | .non => some []
  | .cap none => some []
  | .cap (some n) => some [n]
  | .seq ps => psNames ps
  | .as p n => match pNames p with
    | some ns => some (ns ++ [n])
    | none => none
  | .or ps => match orNames ps with
    | true => some []
    | false => none
def psNames : List DP → Option (List Str)
  | [] => some []
  | p :: ps => match pNames p, psNames ps with
    | some a, some b => some (a ++ b)
    | _, _ => none
def orNames : List DP → Bool
  | [] => true
  | p :: ps => match pNames p with
    | some [] => orNames ps
    | _ => false
end
mutual
theorem patD_names : ∀ (p : DP) (ns : List Str) (d : D) (caps : Caps), pNames p = some ns → patD p d = some caps → caps.map (·.1) = ns
  | .val x, ns, d, caps, h, e => by
    cases h
    unfold patD at e
    cases q : eqB d (.str x) <;> rw [q] at e <;> cases e
    rfl
  | .non, ns, d, caps, h, e => by
    cases h
    unfold patD at e
    cases q : isNon d <;> rw [q] at e <;> cases e
    rfl
  | .cap none, ns, d, caps, h, e => by cases h; cases e; rfl
  | .cap (some n), ns, d, caps, h, e => by cases h; cases e; rfl
  | .seq ps, ns, d, caps, h, e => by
    cases d <;> first | exact patDs_names ps ns _ caps h e | cases e
  | .as p n, ns, d, caps, h, e => by
    unfold pNames at h
    unfold patD at e
    cases q : pNames p with
    | none => rw [q] at h; cases h
    | some ms =>
      rw [q] at h
      cases h
      cases q2 : patD p d with
      | none => rw [q2] at e; cases e
      | some cs =>
        rw [q2] at e
        cases e
        rw [List.map_append, patD_names p ms d cs q q2]
        rfl
  | .or ps, ns, d, caps, h, e => by
    unfold pNames at h
    unfold patD at e
    cases q : orNames ps with
    | false => rw [q] at h; cases h
    | true =>
      rw [q] at h
      cases h
      exact patOr_names ps d caps q e
theorem patDs_names : ∀ (ps : List DP) (ns : List Str) (ds : List D) (caps : Caps), psNames ps = some ns → patDs ps ds = some caps → caps.map (·.1) = ns
  | [], ns, ds, caps, h, e => by
    cases h
    cases ds with
    | nil => cases e; rfl
    | cons d ds => cases e
  | p :: ps, ns, ds, caps, h, e => by
    cases ds with
    | nil => cases e
    | cons d ds =>
      unfold psNames at h
      unfold patDs at e
      cases q1 : pNames p with
      | none => rw [q1] at h; cases h
      | some a =>
        cases q2 : psNames ps with
        | none => rw [q1, q2] at h; cases h
        | some b =>
          rw [q1, q2] at h
          cases h
          cases e1 : patD p d with
          | none => rw [e1] at e; cases e
          | some c1 =>
            rw [e1] at e
            cases e2 : patDs ps ds with
            | none => rw [e2] at e; cases e
            | some c2 =>
              rw [e2] at e
              cases e
              rw [List.map_append, patD_names p a d c1 q1 e1, patDs_names ps b ds c2 q2 e2]
theorem patOr_names : ∀ (ps : List DP) (d : D) (caps : Caps), orNames ps = true → patOr ps d = some caps → caps.map (·.1) = []
  | [], d, caps, h, e => by cases e
  | p :: ps, d, caps, h, e => by
    unfold orNames at h
    unfold patOr at e
    cases q1 : pNames p with
    | none => rw [q1] at h; cases h
    | some a =>
      rw [q1] at h
      cases a with
      | cons n ns => cases h
      | nil =>
        cases e1 : patD p d with
        | none => rw [e1] at e; exact patOr_names ps d caps h e
        | some c1 =>
          rw [e1] at e
          cases e
          exact patD_names p [] d _ q1 e1
end
section
variable {X : Cx} {T : Tab}
theorem pcs_c {p : Pattern} {body : List Stmt} {rest : List MatchCase} {dp : DP} {ix : List Nat} {ns : List Str} {tb : DTS} {cs : List DCase} (hN : X.N.Nodup) (hp : PPat X T p dp) (hn : NamesAt X ns ix) (hd : pNames dp = some ns) (hb : PSs X body (UpS X.K T ek tb)) (hr : PCs X T ek rest cs) :
    PCs X T ek (⟨p, none, body⟩ :: rest) (⟨dp, ix, tb⟩ :: cs) := pcs_cons hN hp hn (fun d caps e => patD_names dp ns d caps hd e) hb hr
end
end DL
/-! DL13: enumerate of a list or a tuple, walked by a for. -/
namespace DL
open PySem PySem.Spec PyProof.Rows L2
set_option maxHeartbeats 2000000 in
theorem meets_enum_any {v : Value} {o : Obj} {J : Heap → Prop} (B : Begins v o J) :
    Meets (Builtin.«enumerate.__new__» ⟨[.type "enumerate", v], []⟩) (fun _ R s => J s.heap ∧
      R (.ok (.ret (.ref (s.heap.push o).objs.size))) { s with heap := (s.heap.push o).push { cls := .type "enumerate", data := .fields #[.none, .bool false, .ref s.heap.objs.size, rawInt 0, .none, .none] } }) :=
  .of_wp fun prog w A R s h => by
    obtain ⟨hp, gg, dd, tk, os⟩ := s
    obtain ⟨hj, h⟩ := h
    have hsub := sub_enumerate
    have itr : ∀ {A' : Around} {E' : Value → Shared → Prop} {Q' : Value → Shared → Prop}, Q' (.ref hp.objs.size) ⟨hp.push o, gg, dd, tk, os⟩ → wpAny (model prog w) A' (pyIter v) Q' E' ⟨hp, gg, dd, tk, os⟩ :=
      fun z => B.iter prog w _ _ ⟨hp, gg, dd, tk, os⟩ _ hj z
    wp_walk using itr
    refine wpAny_stack_any fun stk => wpAny_pure ?_
    split
    · rename_i cc _ _ _ _ _
      cases (cc == Value.type "enumerate")
      · wp_walk using itr
        exact ⟨_, rfl, h⟩
      · wp_walk using itr
        exact ⟨_, rfl, h⟩
    · wp_walk using itr
      exact ⟨_, rfl, h⟩
section
variable {prog : Program} {w : World} {A : Around} {E : Value → Shared → Prop} {s : Shared}
theorem call_enum_any {v : Value} {o : Obj} {J : Heap → Prop} {Q : Value → Shared → Prop} (B : Begins v o J) (hj : J s.heap)
    (k : ∀ h', IsEnum h' (s.heap.objs.size + 1) s.heap.objs.size 0 .none → h'.get? s.heap.objs.size = some o → (∀ b u, s.heap.get? b = some u → h'.get? b = some u) → Q (.ref (s.heap.objs.size + 1)) { s with heap := h' }) :
    wpAny (model prog w) A (call (.type "enumerate") [v]) Q E s := by
  refine callType_new F.called_enumerate (by decide) (F.typeCall_enumerate_1 _) (F.newCall_enumerate_1 _) (fun ob => F.args_object_init_2 ob _) F.entry_enumerate_new (meets_enum_any B) ⟨hj, ?_⟩
  have hz : (s.heap.push o).objs.size = s.heap.objs.size + 1 := Heap.size_push ..
  show _ ∧ _
  rw [hz]
  have he : IsEnum ((s.heap.push o).push { cls := .type "enumerate", data := .fields #[.none, .bool false, .ref s.heap.objs.size, rawInt 0, .none, .none] }) (s.heap.objs.size + 1) s.heap.objs.size 0 .none := by
    have z := Heap.get?_push_size (s.heap.push o) (o := { cls := .type "enumerate", data := .fields #[.none, .bool false, .ref s.heap.objs.size, rawInt 0, .none, .none] }) rfl
    rw [hz] at z; exact z
  exact ⟨⟨_, he, rfl⟩, k _ he (Heap.get?_push_of_some _ (Heap.get?_push_size _ B.free)) fun b u x => Heap.get?_push_of_some _ (Heap.get?_push_of_some _ x)⟩
end
/-- the tuple at a, each item in a new pair -/
def IteT (K : PySem.W.Frag) (a : Addr) : It :=
  ⟨fun i H => ∃ (xs : List V) (x : V), SqT K H a xs ∧ xs[i]? = some x, fun i H v H' => ∃ T x, v = .ref T ∧ H T = none ∧ H' = upd H T (.tup [.int (i : Nat), x]) ∧ ∀ xs, SqT K H a xs → xs[i]? = some x, fun i H => ∃ xs : List V, SqT K H a xs ∧ xs.length ≤ i⟩
theorem turn_enumT {P : Program} {w : World} {K : PySem.W.Frag} {elts : List Expr} {kk : Nat} {tpos : Pos} (a e it : Addr) (hai : a ≠ it) (hae : a ≠ e) :
    Turn P w K (.Tuple elts kk tpos) (IteT K a) [e, it] e (fun i h => (∃ old, IsEnum h e it ((i : Nat) : Int) old) ∧ h.IsTupleIter it a i ∧ e ≠ it) where
  mem := List.mem_cons_self
  obj := fun i h st b hb => by
    obtain ⟨⟨old, he⟩, ⟨ob, ho, hc, hd⟩, _⟩ := st
    rcases List.mem_cons.mp hb with z | hb
    · rw [z]; exact ⟨_, he, fun v q => nomatch q⟩
    · rw [List.mem_singleton.mp hb]; exact ⟨ob, ho, fun v q => by rw [hd] at q; cases q⟩
  keep := fun i h h' st k => let ⟨⟨old, he⟩, hi, hne⟩ := st; ⟨⟨old, k e List.mem_cons_self _ he⟩, hi.at fun ob q => k it (List.mem_cons_of_mem _ List.mem_cons_self) ob q, hne⟩
  item := by
    intro X hP hw hK hc i pins s σ H E' I hf st hg
    subst hP hw hK
    obtain ⟨⟨old, he⟩, hit, hne⟩ := st
    obtain ⟨xs, x, hq, hx⟩ := hg
    obtain ⟨its, rv, p, hz⟩ := I.tuple hq
    obtain ⟨u, hu, ru⟩ := rv.get hx
    have hel : e < s.heap.objs.size := Heap.lt_size he
    have hil : it < s.heap.objs.size := by obtain ⟨_, q, _⟩ := hit; exact Heap.lt_size q
    have hlt : i < its.toArray.size := by
      rw [List.size_toArray]
      exact (List.getElem?_eq_some_iff.mp hu).1
    refine wpAny_pyNext_enum_itemD (Draws.tuple (prog := X.prog) (w := X.w) (A := X.A.in1) (I.ok.hd hc) it a hai its.toArray) he ⟨hit, p⟩ hlt hne (by simp [hne, Ne.symm hae]) fun y h' tk hy ho hst' hT hsz hk => ?_
    have ey : y = u := by
      have hy : its.toArray[i]? = some y := hy
      rw [List.getElem?_toArray, hu] at hy
      exact (Option.some.inj hy).symm
    subst ey
    obtain ⟨hit', _⟩ := hst'
    refine ⟨_, rfl, wpAny_letOwnedTupleGo_enum (s := { s with heap := h', toks := tk + 1 }) ho fun h'' he' sb => ?_⟩
    have hT2 : h''.get? s.heap.objs.size = some { cls := .type "tuple", data := .seq #[.int i tk, y] } := (sb.2 _ (Nat.ne_of_gt hel)).trans hT
    have new : ObjOk X.prog X.w (upd H s.heap.objs.size (.tup [.int (i : Nat), x])) h'' s.heap.objs.size (.tup [.int (i : Nat), x]) :=
      ⟨by show 2 ≤ sizeLine; decide, [.int i tk, y], .cons ⟨_, rfl⟩ (.cons ru .nil), ⟨_, hT2, rfl, _, rfl⟩⟩
    have I1 : Inv X pins σ (upd H s.heap.objs.size (.tup [.int (i : Nat), x])) { s with heap := h'', toks := tk + 1 } :=
      I.turnedNew (ch := [e, it]) (fun b ob hb q => (sb.2 b fun z => hb (by simp [z])).trans (hk b ob (fun z => hb (by simp [z])) (fun z => hb (by simp [z])) q)) hf (Nat.le_refl _) new
    refine ⟨.ref s.heap.objs.size, _, I1, rfl, ⟨_, x, rfl, I.hok.fresh (Nat.le_refl _), rfl, fun ys hy => by rw [I.tuple_inj hy hq]; exact hx⟩, ⟨⟨y, ?_⟩, hit'.at fun ob q => (sb.2 it (Ne.symm hne)).trans q, hne⟩, fun b hb => ?_⟩
    · have e1 : ((i + 1 : Nat) : Int) = (i : Int) + 1 := by omega
      rw [e1]; exact he'
    · have hb' : b < s.heap.objs.size := by
        rcases List.mem_cons.mp hb with z | hb
        · rw [z]; exact hel
        · rw [List.mem_singleton.mp hb]; exact hil
      rw [upd_ne (Nat.ne_of_lt hb')]
      exact (hf b hb).1
  done := by
    intro X hP hw hK hc i pins s σ H E' I hf st hg
    subst hP hw hK
    obtain ⟨⟨old, he⟩, hit, hne⟩ := st
    obtain ⟨xs, hq, hx⟩ := hg
    obtain ⟨its, rv, p, hz⟩ := I.tuple hq
    obtain ⟨f0, f1, f2, f3, f4, f5⟩ := hf it (List.mem_cons_of_mem _ List.mem_cons_self)
    have hl := rv.length
    have hT : s.TypeIs (.ref e) "enumerate" := ⟨_, he, rfl⟩
    unfold pyNext
    refine wpAny_bind (wpAny_attempt (wpAny_callSpecial?_slot (name := Str.ofString "__next__") hT F.slot_enumerate_next (wpAny_call_entry F.slot_enumerate_next hT F.entry_enumerate_next ?_ (F.args_enumerate_next_1 _))))
    show wpAny _ _ (field (.ref e) 2 >>= _) _ _ _
    refine wpAny_bind (wpAny_field he rfl (x := .ref it) rfl ?_)
    refine wpAny_bind (wpAny_nextOf_tuple_end (I.ok.hd hc) hit p (by simp; omega) fun h' xx he' hx' => ?_)
    obtain ⟨ob, ho, hcl⟩ := hx'
    refine wpAny_bind (wpAny_isInstance (T := "StopIteration") (b := true) ⟨ob, ho, hcl⟩ isSubtype_stop ?_)
    exact wpAny_pure ⟨rfl, I.turned (t' := s.toks) (fun b o hb q => he' b o hb q) f0 f1 f3 f4 f5⟩
  self := fun A i s Q E' st h => let ⟨⟨_, he⟩, _⟩ := st; wpAny_pyIter_enum he h
def iEnumA (K : PySem.W.Frag) (ta : TA) : TI := fun σ H R => ta σ H fun vs H1 => ∃ a, vs = [.ref a] ∧ (((∃ xs, SqL K H1 a xs) ∧ R (Ite K a) H1) ∨ ((∃ xs, SqT K H1 a xs) ∧ R (IteT K a) H1))
theorem pi_enumA {X : Cx} {e : Expr} {ta : TA} {p pos tpos : Pos} {elts : List Expr} {kk : Nat} (hg : Gl X "enumerate") (hm : X.mg "enumerate" = none) (ha : PA X [e] ta) (hs : starEach [e] X.env = [(false, eval e X.env)] := by rfl) :
    PI X (.Tuple elts kk tpos) (.Call (.Name "enumerate" p) [e] [] pos) (iEnumA X.K ta) :=
  ⟨fun pins s σ H R I h => Call_ (ld_blt I hg hm boot_enumerate (PyProof.Rows.callWith_type1 (thn (ha.run pos pins s σ H _ I h) fun us s1 ⟨vs, H1, I1, r1, q1⟩ => by
    obtain ⟨a, rfl, q⟩ := q1
    obtain ⟨u, rfl, ru⟩ := vals1 r1
    cases ru
    have fresh : ∀ b, b = s1.heap.objs.size + 1 ∨ b = s1.heap.objs.size → s1.heap.objs.size ≤ b := fun b z => by
      rcases z with z | z
      · rw [z]; exact Nat.le_add_right _ _
      · rw [z]; exact Nat.le_refl _
    have two : ∀ b, b ∈ [s1.heap.objs.size + 1, s1.heap.objs.size] → FpOk X pins H1 b := fun b hb => by
      have z : b = s1.heap.objs.size + 1 ∨ b = s1.heap.objs.size := by simpa using hb
      exact I1.fpOk (fresh b z) (I1.hok.fresh (fresh b z))
    rcases q with ⟨⟨xs, hq⟩, q⟩ | ⟨⟨xs, hq⟩, q⟩
    · obtain ⟨its, rv, p', hz⟩ := I1.list hq
      refine call_enumerate_list p'.isList fun h' he hit hsz hk => wpAny_pyIter_enum he ?_
      have I2 : Inv X pins σ H1 { s1 with heap := h' } := I1.kept (t' := s1.toks) hk
      exact ⟨s1.heap.objs.size + 1, [s1.heap.objs.size + 1, s1.heap.objs.size], _, _, H1, rfl, I2, turn_enum a (s1.heap.objs.size + 1) s1.heap.objs.size, ⟨⟨.none, he⟩, hit, Nat.succ_ne_self _⟩, two, q⟩
    · obtain ⟨its, rv, p', hz⟩ := I1.tuple hq
      have hlt : a < s1.heap.objs.size := p'.lt
      refine call_enum_any (begins_tuple a its.toArray) p' fun h' he hit hk => wpAny_pyIter_enum he ?_
      have I2 : Inv X pins σ H1 { s1 with heap := h' } := I1.kept (t' := s1.toks) hk
      exact ⟨s1.heap.objs.size + 1, [s1.heap.objs.size + 1, s1.heap.objs.size], _, _, H1, rfl, I2, turn_enumT a (s1.heap.objs.size + 1) s1.heap.objs.size (Nat.ne_of_lt hlt) (Nat.ne_of_lt (Nat.lt_succ_of_lt hlt)), ⟨⟨.none, he⟩, ⟨_, hit, rfl, rfl⟩, Nat.succ_ne_self _⟩, two, q⟩) hs rfl))⟩
@[simp] def enumL (i : Int) : List D → List D
  | [] => []
  | d :: ds => .tup [.int i, d] :: enumL (i + 1) ds
theorem enumL_len : ∀ (ds : List D) (i : Int), (enumL i ds).length = ds.length
  | [], _ => rfl
  | d :: ds, i => by rw [enumL, List.length_cons, List.length_cons, enumL_len ds]
theorem enumL_get : ∀ (ds : List D) (lo : Int) (i : Nat) (d : D), (enumL lo ds)[i]? = some d → ∃ x, ds[i]? = some x ∧ d = .tup [.int (lo + i), x]
  | [], _, _, _, h => by simp at h
  | x :: ds, lo, 0, d, h => by
    rw [enumL, List.getElem?_cons_zero] at h
    exact ⟨x, rfl, by rw [← Option.some.inj h]; simp⟩
  | x :: ds, lo, i + 1, d, h => by
    rw [enumL, List.getElem?_cons_succ] at h
    obtain ⟨y, h1, h2⟩ := enumL_get ds (lo + 1) i d h
    refine ⟨y, by rw [List.getElem?_cons_succ]; exact h1, ?_⟩
    rw [h2]
    have e : lo + 1 + (i : Int) = lo + ((i + 1 : Nat) : Int) := by omega
    rw [e]
@[simp] def dForE (ta : DTA) (tg : DTG) (tb : DTS) : DTS := fun E τ => ta τ fun g ds => match ds with
  | [d] => match elems d with
    | some es => Nat.ble 1 (up g d) = true ∧ forRec (up g d) tg tb E (enumL 0 es) τ
    | none => False
  | _ => False
section
variable {X : Cx} {T : Tab} {a : Expr} {elts : List Expr} {kk : Nat} {tpos : Pos} {body : List Stmt} {ta : DTA} {tgd : DTG} {tb : DTS} {pos p1 p2 : Pos}
theorem ds_forE (hp : PassesOwn (model X.prog X.w) X.A X.env X.xe) (hc : X.calm = true) (hg0 : Gl X "enumerate") (hm : X.mg "enumerate" = none) (ha : PA X [a] (UpA X.K T ta)) (hg : PG X (.Tuple elts kk tpos) (UpG X.K T tgd)) (hb : PSs X body (UpS X.K T ek tb))
    (hs : starEach [a] X.env = [(false, eval a X.env)] := by rfl) (hf : ∀ x, foldedSetIterable (.Call (.Name "enumerate" p1) [a] [] p2) X.env x = pure x := by intro _; rfl) : PS X (.For (.Tuple elts kk tpos) (.Call (.Name "enumerate" p1) [a] [] p2) body [] pos) (UpS X.K T ek (dForE ta tgd tb)) :=
  (ps_for hp hc (pi_enumA hg0 hm ha hs) hg hb hf).of fun E σ H ⟨S, τ, DD, sr, h, o⟩ => ⟨S, τ, _, sr, h, fun H1 vs g ds a r q => by
    have s1 := sr.aft a
    split at q
    · rename_i d
      obtain ⟨v, rfl, r0⟩ := r.one'
      have rg := RepG.up r0
      generalize hgg : up g d = gg at rg q
      have hcl : ∀ {P' : Addr → Prop} {τ' : DSt} {σ' : L2.St} {H' : Hp}, SR X.K T { S with P := P', G := (gg, d, v) :: S.G } τ' σ' H' → RepG X.K T { S with P := P' } gg H' d v := fun {P' τ' σ' H'} z => by
        have w := (z.gh _ List.mem_cons_self).2
        match gg, w with
        | 0, h => exact h
        | 1, h => exact h
        | g + 2, h => exact h
      have hdr : ∀ P' τ' σ' H', SR X.K T { S with P := P', G := (gg, d, v) :: S.G } τ' σ' H' → SR X.K T { S with P := P' } τ' σ' H' := fun P' τ' σ' H' z => SR.ungh (S := { S with P := P' }) z
      cases d with
      | lst es =>
        obtain ⟨hg1, q⟩ := q
        have s2 := s1.gho (Nat.le_of_ble_eq_true hg1) rg
        obtain ⟨p, vs, rfl, e1, e2, rs⟩ := rg
        refine ⟨p, rfl, .inl ⟨⟨vs, SqL.of e1⟩, for_core (C := fun P' H' => RepG X.K T { S with P := P' } gg H' (.lst es) (.ref p)) hdr (fun P' τ' σ' H' z => hcl z) (fun P' i H' hi ⟨p2, us, e, f1, f2, f3⟩ => ?_) (fun P' i H' x H'' ⟨p2, us, e, f1, f2, f3⟩ ⟨Tt, y, e5, e6, e7, e8⟩ => ?_) (fun P' H' ⟨p2, us, e, f1, f2, f3⟩ => ?_) s2 q o⟩⟩
        · cases e
          rw [enumL_len] at hi
          obtain ⟨w, ew, _⟩ := f3.get (List.getElem?_eq_getElem hi)
          exact ⟨us, w, SqL.of f1, ew⟩
        · cases e
          subst e5 e7
          have kk : Kp (fun _ => False) H' (upd H' Tt (.tup [.int (i : Nat), y])) := Kp.laid e6
          refine ⟨⟨kk, Tk.laid e6⟩, fun d hd => ?_⟩
          obtain ⟨x, hx, rfl⟩ := enumL_get es 0 i d hd
          obtain ⟨w, ew, rw'⟩ := f3.get hx
          have := e8 us (SqL.of f1)
          rw [ew] at this
          cases this
          exact ⟨Tt, [.int (i : Nat), y], rfl, SqT.of upd_same, .int (i : Nat), [y], rfl, (by show V.int _ = V.int _; congr 1; omega), y, [], rfl, Rep.kp kk (fun _ z => z.elim) _ _ rw', rfl⟩
        · cases e
          exact ⟨us, SqL.of f1, by rw [f3.len, enumL_len]; exact Nat.le_refl _⟩
      | tup es =>
        obtain ⟨hg1, q⟩ := q
        have s2 := s1.gho (Nat.le_of_ble_eq_true hg1) rg
        obtain ⟨p, vs, rfl, e1, rs⟩ := rg
        refine ⟨p, rfl, .inr ⟨⟨vs, e1⟩, for_core (C := fun P' H' => RepG X.K T { S with P := P' } gg H' (.tup es) (.ref p)) hdr (fun P' τ' σ' H' z => hcl z) (fun P' i H' hi ⟨p2, us, e, f1, f3⟩ => ?_) (fun P' i H' x H'' ⟨p2, us, e, f1, f3⟩ ⟨Tt, y, e5, e6, e7, e8⟩ => ?_) (fun P' H' ⟨p2, us, e, f1, f3⟩ => ?_) s2 q o⟩⟩
        · cases e
          rw [enumL_len] at hi
          obtain ⟨w, ew, _⟩ := f3.get (List.getElem?_eq_getElem hi)
          exact ⟨us, w, f1, ew⟩
        · cases e
          subst e5 e7
          have kk : Kp (fun _ => False) H' (upd H' Tt (.tup [.int (i : Nat), y])) := Kp.laid e6
          refine ⟨⟨kk, Tk.laid e6⟩, fun d hd => ?_⟩
          obtain ⟨x, hx, rfl⟩ := enumL_get es 0 i d hd
          obtain ⟨w, ew, rw'⟩ := f3.get hx
          have := e8 us f1
          rw [ew] at this
          cases this
          exact ⟨Tt, [.int (i : Nat), y], rfl, SqT.of upd_same, .int (i : Nat), [y], rfl, (by show V.int _ = V.int _; congr 1; omega), y, [], rfl, Rep.kp kk (fun _ z => z.elim) _ _ rw', rfl⟩
        · cases e
          exact ⟨us, f1, by rw [f3.len, enumL_len]; exact Nat.le_refl _⟩
      | _ => exact (show False from q).elim
    · exact q.elim⟩
end
end DL
/-! DL14: bodies of __init__, constants of classes, classmethods, classes as values. -/
namespace DL
open PySem PySem.Spec PyProof.Rows L2
section
variable {K : PySem.W.Frag} {T : Tab} {S : Sit} {τ : DSt} {σ : L2.St} {H H' : Hp}
theorem putF_zip {f : Str} {v : V} : ∀ {fs : List Str} {vs : List V}, fs.length = vs.length → f ∉ fs → putF f v (fs.zip vs) = (fs ++ [f]).zip (vs ++ [v])
  | [], [], _, _ => rfl
  | g :: gs, u :: us, hl, hn => by
    have h1 : g ≠ f := fun z => hn (z ▸ List.mem_cons_self)
    rw [List.zip_cons_cons]
    show (if g = f then _ else _) = _
    rw [if_neg h1, putF_zip (Nat.succ.inj hl) fun z => hn (List.mem_cons_of_mem _ z)]
    rfl
/-- one's own instance gets its next attribute -/
theorem SR.putI {c : Nat} {ds : List D} {d : D} {x dx : Addr} {vs : List V} {u : V} {f : Str} (hc : c ≠ 999) (sr : SR K T S τ σ H) (e : τ[0]? = some (.ins c ds)) (eσ : σ[0]? = some (some (.ref x))) (ex : H x = some (.ins (T c).1 dx (((T c).2.take ds.length).zip vs)))
    (hj : (T c).2[ds.length]? = some f) (nd : (T c).2.Nodup) (r : RepG K T S 2 H d u) :
    SR K T S (τ.set 0 (.ins c (ds ++ [d]))) σ (upd H x (.ins (T c).1 dx (putF f u (((T c).2.take ds.length).zip vs)))) := by
  obtain ⟨_, x', dx', vs', e1, e2, e3, rs⟩ := sr.ins 0 c ds e
  rw [eσ] at e1
  have ez : x = x' := V.ref.inj (Option.some.inj (Option.some.inj e1))
  subst ez
  rw [ex, insO_ins hc] at e2
  have hX := sr.xp x e3
  have hlen : vs'.length = ds.length := rs.len
  have hjl : ds.length < (T c).2.length := (List.getElem?_eq_some_iff.mp hj).1
  have hz : ((T c).2.take ds.length).zip vs = ((T c).2.take ds.length).zip vs' ∧ dx = dx' := by
    injection e2 with e2
    injection e2 with _ h2 h3
    exact ⟨h3, h2⟩
  obtain ⟨hz, rfl⟩ := hz
  have hput : putF f u (((T c).2.take ds.length).zip vs) = ((T c).2.take (ds.length + 1)).zip (vs' ++ [u]) := by
    rw [hz, putF_zip (by rw [List.length_take, hlen]; omega) ?_]
    · congr 1
      rw [List.take_succ, hj]
      rfl
    · intro hm
      obtain ⟨i, hi, ei⟩ := List.mem_iff_getElem.mp hm
      rw [List.length_take] at hi
      rw [List.getElem_take] at ei
      have h2 := (List.getElem?_eq_some_iff.mp hj).2
      have := (List.getElem_inj (h₀ := by omega) (h₁ := hjl) nd).mp (ei.trans h2.symm)
      omega
  rw [hput]
  have ne : ∀ a o, H a = some o → ¬ S.P a → a ≠ x := fun a o _ n z => n (z ▸ hX.1)
  have k : Kp S.P H (upd H x (.ins (T c).1 dx (((T c).2.take (ds.length + 1)).zip (vs' ++ [u])))) := by
    refine ⟨fun a o q n _ => ?_, fun a xs q => ?_, fun a o w q => ?_, fun a q => ?_⟩
    · rw [upd_ne (ne a o q n)]; exact q
    · rw [upd_ne fun z => by rw [z, ex] at q; cases q]; exact q
    · rw [upd_ne fun z => by rw [z, ex] at q; cases q]; exact q
    · by_cases z : a = x
      · rw [z]; exact Lv.of upd_same
      · obtain ⟨u, e, t⟩ := q.ex
        exact Lv.of (by rw [upd_ne z]; exact e) t
  have sub : ∀ g, 1 ≤ g → ∀ a, S.P a → gset S g a := fun g hg a z => match g, hg with
    | 1, _ => z
    | _ + 2, _ => .inl z
  refine ⟨by rw [List.length_set]; exact sr.len, sr.bp, fun a h => k.s a (sr.al a h), sr.ml, ⟨fun a o h n tt => ?_, fun a xs h => k.t a xs (sr.kp.t a xs h), fun a o w h => k.z a o w (sr.kp.z a o w h), fun a h => k.s a (sr.kp.s a h)⟩, sr.xp, sr.fr, sr.bl, ?_, sr.lp, fun j g d' q => ?_, fun j fs q => ?_, fun j c' fs q => ?_, fun y hy => ⟨(sr.gh y hy).1, Rep.kp k (sub y.1 (sr.gh y hy).1) _ _ (sr.gh y hy).2⟩, fun j l fs gs q q1 q2 q3 q4 => ?_⟩
  · rw [upd_ne fun z => n (.inr (by rw [z]; exact e3))]
    exact sr.kp.k0 a o h n tt
  · refine sr.bag.kp (N := fun a => a = x) ⟨fun a o q n _ => by rw [upd_ne n]; exact q, fun a xs q => k.t a xs q, fun a o w q => k.z a o w q, fun a q => k.s a q⟩ (Tk.write ex (fun _ z => by cases z) fun _ z => by cases z) fun b hb => ⟨fun z => hX.2 (z ▸ hb), fun z => ?_⟩
    have z : S.L.a = x := z
    exact sr.lp b hb (by rw [z]; exact hX.1)
  · by_cases hj' : 0 = j
    · subst hj'
      cases (set_at q).2
    · rw [List.getElem?_set_ne hj'] at q
      obtain ⟨hg, v, q1, h⟩ := sr.val j g d' q
      exact ⟨hg, v, q1, Rep.kp k (sub g hg) d' v h⟩
  · by_cases hj' : 0 = j
    · subst hj'
      cases (set_at q).2
    · rw [List.getElem?_set_ne hj'] at q
      obtain ⟨p2, ws, q1, q2, q3, q4, q5, h⟩ := sr.own j fs q
      exact ⟨p2, ws, q1, by rw [upd_ne fun z => q5 (by rw [z]; exact e3)]; exact q2, q3, q4, q5, Reps.kp k (sub 2 (by decide)) fs ws h⟩
  · by_cases hj' : 0 = j
    · subst hj'
      cases (set_at q).2
      exact ⟨rfl, x, dx, vs' ++ [u], eσ, by rw [upd_same, List.length_append, insO_ins hc]; rfl, e3, Reps.kp k (sub 2 (by decide)) _ _ (rs.append (Reps.one r))⟩
    · rw [List.getElem?_set_ne hj'] at q
      exact absurd (sr.ins j c' fs q).1.symm hj'
  · have old : ∀ (j : Nat) (fs : List D), (τ.set 0 (.ins c (ds ++ [d])))[j]? = some (.own fs) → τ[j]? = some (.own fs) := fun j fs q => by
      by_cases hj : 0 = j
      · subst hj
        cases (set_at q).2
      · rw [List.getElem?_set_ne hj] at q; exact q
    exact sr.inj j l fs gs q (old j fs q1) (old l gs q2) q3 q4
end
/-- self.f = e, the next attribute -/
@[simp] def dPutF (c j : Nat) (te : DTE) : DTS := fun D τ => te τ fun sl => sto sl = true ∧ match τ[(0 : Nat)]? with
  | some (.ins c' ds) => c' = c ∧ ds.length = j ∧ D.nx (τ.set 0 (.ins c (ds ++ [sl.d])))
  | _ => False
/-- self.f, read -/
@[simp] def dFldI (c j : Nat) : DTE := fun τ Q => match τ[(0 : Nat)]? with
  | some (.ins c' ds) => c' = c ∧ match ds[j]? with
    | some d => Q (.v 2 d)
    | none => False
  | _ => False
section
variable {X : Cx} {T : Tab} {e : Expr} {te : DTE} {pos pos' pos'' p : Pos} {x f : Str} {c j : Nat}
theorem sto_rep {K : PySem.W.Frag} {S : Sit} {τ : DSt} {σ : L2.St} {H H1 : Hp} {sl : Sl} {v : V} (sr : SR K T S τ σ H) (r : RepSl K T S H H1 sl v) (h : sto sl = true) : RepG K T S 2 H1 sl.d v := by
  cases sl with
  | v g d =>
    have h1 : (Nat.ble 2 g || d.imm) = true := h
    rcases Bool.or_eq_true_iff.mp h1 with h2 | h2
    · match g, h2, r with
      | g + 2, _, r => exact r
    · exact Rep.imm d v h2 r
  | own ds => exact r.g sr
  | un => exact r.elim
  | ins c ds => exact r.elim
theorem take_zip_get {fs : List Str} {vs : List V} {n j : Nat} {f : Str} {v : V} (nd : fs.Nodup) (h : fs[j]? = some f) (hv : vs[j]? = some v) (hl : vs.length = n) : ((fs.take n).zip vs).lookup f = some v := by
  have hj : j < n := by rw [← hl]; exact (List.getElem?_eq_some_iff.mp hv).1
  exact zip_lookup (j := j) ((List.take_sublist n fs).nodup nd) (by rw [List.getElem?_take_of_lt hj]; exact h) hv
theorem ds_putF (hN : X.N[0]? = some x) (hv : Vis X.env.scope x) (cl : Cls X.K (T c).1) (na : NoAttr X.K (T c).1 f) (nd : (T c).2.Nodup) (hj : (T c).2[j]? = some f) (h9 : (T c).2.length < 1000) (he : PE X e (UpE X.K T te)) (hc : c ≠ 999 := by decide)
    (hs : swapsWith e (some (.Attribute (.Name x p) f pos')) pos.line X.env = pure false := by rfl) (hd : (x == ("__debug__" : Str)) = false := by decide) (hcd : (x == ("__classdict__" : Str)) = false := by decide) :
    PS X (.Assign [.Attribute (.Name x p) f pos'] e pos) (UpS X.K T ek (dPutF c j te)) :=
  (ps_fld (pe_var hN hv hd hcd) he hs).of fun D σ H ⟨S, τ, DD, sr, h, o⟩ => ⟨S, τ, _, sr, h, fun H1 v sl a r q => by
    obtain ⟨q1, q⟩ := q
    have s1 := sr.aft a
    split at q
    · rename_i c' ds e0
      obtain ⟨rfl, hl, q⟩ := q
      obtain ⟨_, y, dx, vs, e1, e2, e3, rs⟩ := s1.ins 0 c' ds e0
      rw [insO_ins hc] at e2
      refine ⟨.ref y, e1, y, _, dx, _, rfl, e2, cl, na, ?_, ?_⟩
      · rw [List.length_zip, rs.len, List.length_take]; omega
      · exact o.nx S.P _ _ _ (s1.putI hc e0 e1 e2 (by rw [hl]; exact hj) nd (sto_rep sr r q1)) q
    · exact q.elim⟩
theorem de_fldI (hN : X.N[0]? = some x) (hv : Vis X.env.scope x) (cl : Cls X.K (T c).1) (na : NoAttr X.K (T c).1 f) (nd : (T c).2.Nodup) (hj : (T c).2[j]? = some f) (hc : c ≠ 999 := by decide)
    (hb : attributeBase (.Name x p) f X.env (eval (.Name x p) X.env) = eval (.Name x p) X.env := by rfl) (hd : (x == ("__debug__" : Str)) = false := by decide) (hcd : (x == ("__classdict__" : Str)) = false := by decide) :
    PE X (.Attribute (.Name x p) f pos) (UpE X.K T (dFldI c j)) :=
  (pe_fld (pe_var hN hv hd hcd) hb).of fun σ H Q ⟨S, τ, QD, sr, h, k⟩ => by
    unfold dFldI at h
    split at h
    · rename_i c' ds e0
      obtain ⟨rfl, h⟩ := h
      obtain ⟨_, y, dx, vs, e1, e2, e3, rs⟩ := sr.ins 0 c' ds e0
      rw [insO_ins hc] at e2
      split at h
      · rename_i d ed
        obtain ⟨v, h1, h2⟩ := rs.get ed
        exact ⟨.ref y, e1, y, _, dx, _, v, rfl, e2, cl, na, take_zip_get nd hj h1 rs.len, k H v (.v 2 d) sr.same h2 h⟩
      · exact h.elim
    · exact h.elim
end
/-- the slots at the entry of an __init__ -/
@[simp] def startI (N : List Str) (c : Nat) (ds : List D) : DSt := Sl.ins c [] :: (ds.map (fun d => Sl.v (up 1 d) d) ++ List.replicate (N.length - (ds.length + 1)) .un)
theorem sr_startI {K : PySem.W.Frag} {T : Tab} {B : Option Addr} {L : LX} {x dx : Addr} {M : Addr → Prop} {H : Hp} {N : List Str} {c : Nat} {ds : List D} {vs : List V} (hc : c ≠ 999) (ex : H x = some (.ins (T c).1 dx [])) (hB : B ≠ some x) (hL : L.a ≠ x) (bag : BagOk T B L H) (hm : ∀ a, M a → Lv H a)
    (r : Reps K T B (fun a => B = some a ∨ a = x) H ds vs) :
    SR K T ⟨B, L, some x, H, M, fun a => B = some a ∨ a = x, []⟩ (startI N c ds) (start N (.ref x :: vs)) H := by
  have hb : ∀ a, B = some a → Lv H a := fun a e => by
    obtain ⟨_, ns, _, _, _, _, h1, _⟩ := bag.bg a e
    exact Lv.of h1
  have at_ : ∀ {i : Nat} {s : Sl}, (startI N c ds)[i]? = some s → (i = 0 ∧ s = .ins c []) ∨ (∃ j d, i = j + 1 ∧ ds[j]? = some d ∧ s = .v (up 1 d) d) ∨ s = .un := fun {i s} e => by
    unfold startI at e
    cases i with
    | zero => rw [List.getElem?_cons_zero] at e; cases e; exact .inl ⟨rfl, rfl⟩
    | succ i =>
      rw [List.getElem?_cons_succ] at e
      refine .inr ?_
      rcases Nat.lt_or_ge i ds.length with h | h
      · rw [List.getElem?_append_left (by rw [List.length_map]; exact h), List.getElem?_map, List.getElem?_eq_getElem h] at e
        cases e
        exact .inl ⟨i, _, rfl, List.getElem?_eq_getElem h, rfl⟩
      · rw [List.getElem?_append_right (by rw [List.length_map]; exact h)] at e
        obtain ⟨_, e⟩ := List.getElem?_eq_some_iff.mp e
        rw [List.getElem_replicate] at e
        exact .inr e.symm
  have s0 : (start N (.ref x :: vs))[0]? = some (some (.ref x)) := by
    unfold L2.start
    rw [List.map_cons, List.cons_append, List.getElem?_cons_zero]
  refine ⟨?_, fun a z => .inl z, fun a z => ?_, hm, Kp.refl, fun a z => ?_, fun a z q q2 => ?_, hb, bag, fun b e z => ?_, fun i g d e => ?_, fun i es e => ?_, fun i c' es e => ?_, fun y hy => (by cases hy), fun i j es fs p e => ?_⟩
  · unfold startI L2.start
    rw [List.map_cons, List.cons_append, List.length_cons, List.length_cons, List.length_append, List.length_append, List.length_map, List.length_map, List.length_replicate, List.length_replicate, List.length_cons, r.len]
  · rcases z with z | z
    · exact hb a z
    · rw [z]; exact Lv.of ex
  · cases z
    exact ⟨.inr rfl, hB⟩
  · rcases z with z | z
    · exact absurd z q
    · exact absurd (by rw [z]) q2
  · obtain ⟨h1, _⟩ := bag.bg b e
    have e : B = some b := e
    rcases z with z | z
    · have z : B = some L.a := z
      rw [e] at z
      exact h1 (Option.some.inj z)
    · exact hL z
  · rcases at_ e with ⟨_, e2⟩ | ⟨j, d', rfl, e1, e2⟩ | e2
    · cases e2
    · cases e2
      obtain ⟨v, h1, h2⟩ := r.get e1
      refine ⟨?_, v, ?_, RepG.up (S := ⟨B, L, some x, H, M, fun a => B = some a ∨ a = x, []⟩) (g := 1) h2⟩
      · unfold up
        cases d.imm <;> decide
      · unfold L2.start
        rw [List.map_cons, List.cons_append, List.getElem?_cons_succ, List.getElem?_append_left (by rw [List.length_map]; exact (List.getElem?_eq_some_iff.mp h1).1), List.getElem?_map, h1] <;> rfl
    · cases e2
  · rcases at_ e with ⟨_, e2⟩ | ⟨j, d', _, e1, e2⟩ | e2 <;> cases e2
  · rcases at_ e with ⟨e1, e2⟩ | ⟨j, d', _, e1, e2⟩ | e2
    · cases e2
      subst e1
      exact ⟨rfl, x, dx, [], s0, (by rw [insO_ins hc, List.zip_nil_right]; exact ex), rfl, rfl⟩
    · cases e2
    · cases e2
  · rcases at_ e with ⟨_, e2⟩ | ⟨j, d', _, e1, e2⟩ | e2 <;> cases e2
/-- the end of an __init__ -/
@[simp] def endI (c n : Nat) (QD : List D → Prop) : DSt → Prop := fun τ => match τ[(0 : Nat)]? with
  | some (.ins c' fs) => c' = c ∧ fs.length = n ∧ QD fs
  | _ => False
section
variable {P : Program} {w : World} {K : PySem.W.Frag} {T : Tab} {mg : Str → Option Value} {base : Heap} {x qual : Str} {params : Arguments} {body : List Stmt} {scope : Scope} {dvs : List V} {kws : List (Str × V)} {f : Addr} {fd : FuncData} {N ps : List Str} {k : Nat}
theorem init_ok (F : FunD K x qual params body scope dvs kws f fd) (S : FnScope N ps scope) (c : Nat) (C : CtrI) (t : DTS) (hl : ∀ ds QD, C ds QD → ds.length + 1 = ps.length)
    (hb : ∀ (cdv : Value) (A : Around) (outer : List Env) (s : Shared) (H : Hp) (E : XK), Room k (A.deeper (envOfC qual scope s.heap.objs.size f cdv)) → PSs (cxOf CX0 P w K mg base N qual scope f cdv A outer s H E).nox body (UpS K T ⟨mg, E⟩ t))
    (hp : ∀ ds QD, C ds QD → t { nx := endI c (T c).2.length QD, rt := fun _ => False } (startI N c ds)) (hc : c ≠ 999 := by decide) : FnOk P w K mg base CX0 (k + 1) f fd ps (spI K T c C) := by
  refine F.ok S (fun vs H Q E h => ?_) (fun cdv A outer s H vs Q E hr h => ⟨UpS K T ⟨mg, E⟩ t, (hb cdv A outer s H E hr).nox, ?_⟩)
  · obtain ⟨B, L, M, ds, QD, y, dx, us, rfl, _, _, _, _, _, _, r, q, _⟩ := h
    rw [List.length_cons, r.len]; exact hl ds QD q
  · obtain ⟨B, L, M, ds, QD, y, dx, us, rfl, ey, nB, nL, nM, bag, hm, r, q, kk⟩ := h
    refine ⟨⟨B, L, some y, H, M, fun a => B = some a ∨ a = y, []⟩, startI N c ds, _, sr_startI hc ey nB nL bag hm r, hp ds QD q, ⟨fun P' τ' σ' H' sr q' => ?_, fun _ _ _ _ _ z => z.elim, fun _ _ _ _ _ z => z.elim, fun H' v sl kp bag' rr q' => q'.elim, fun _ _ _ _ _ _ _ _ z => z.elim, fun _ _ _ _ _ _ _ z => z.elim⟩⟩
    have q' : endI c (T c).2.length QD τ' := q'
    unfold endI at q'
    split at q'
    · rename_i c' fs e0
      obtain ⟨rfl, hn, q'⟩ := q'
      obtain ⟨_, z, dz, ws, e1, e2, e3, rs⟩ := sr.ins 0 c' fs e0
      cases e3
      rw [insO_ins hc, hn, List.take_length] at e2
      refine kk H' fs ws dz (sr.kp.mono fun a z => Or.elim z .inl fun z => .inr (Option.some.inj z).symm) sr.bag e2 (Reps.anti (fun a z => ?_) fs ws rs) q'
      rcases z with (z | z) | z
      · exact .inr z
      · exact .inl (sr.bp a z)
      · exact .inl ((sr.xp a (by rw [z])).1)
    · exact q'.elim
end
end DL
/-! DL15: constants, classmethods, classes as values, isinstance, properties. -/
namespace DL
open PySem PySem.Spec PyProof.Rows L2
/-! ### names of the module -/
section
variable {X : Cx} {T : Tab} {x f m : Str} {pos p apos : Pos} {c k : Nat} {e o : Expr} {es : List Expr} {t : DTA}
/-- data that stands in the module for good -/
def KRep (K : PySem.W.Frag) (T : Tab) (d : D) (v : V) : Prop := ∀ (B : Option Addr) (M : Addr → Prop) (H : Hp), Rep K T B M H d v
structure Cst (K : PySem.W.Frag) (T : Tab) (mg : Str → Option Value) (x : Str) (d : D) : Prop where
  ex : ∃ (v : V) (u : Value), mg x = some u ∧ RelV v u ∧ KRep K T d v
theorem de_cst {d : D} (h : Cst X.K T X.mg x d) (hg : Gl X x) (hd : (x == ("__debug__" : Str)) = false := by decide) : PE X (.Name x pos) (UpE X.K T (dK d)) := by
  obtain ⟨v, u, h1, h2, h3⟩ := h.ex
  exact (pe_glob hg h1 h2 hd).of fun σ H Q ⟨S, τ, QD, sr, h, k⟩ => k H v (.v 2 d) sr.same (h3 _ _ _) h
/-- C.f, a constant of a class -/
structure CCst (K : PySem.W.Frag) (T : Tab) (mg : Str → Option Value) (x : Str) (c : Nat) (f : Str) (d : D) : Prop where
  ex : mg x = some (.ref (T c).1) ∧ ∃ (mc : Value) (v : V) (u : Value), ClX.CRead K (T c).1 mc ∧ ClX.CVal K (T c).1 mc f v u ∧ KRep K T d v
theorem de_ccst {d : D} (h : CCst X.K T X.mg x c f d) (hg : Gl X x) (hb : attributeBase (.Name x p) f X.env (eval (.Name x p) X.env) = eval (.Name x p) X.env := by rfl) (hd : (x == ("__debug__" : Str)) = false := by decide) :
    PE X (.Attribute (.Name x p) f pos) (UpE X.K T (dK d)) := by
  obtain ⟨h0, mc, v, u, h1, h2, h3⟩ := h.ex
  exact (ClX.pe_cval (pe_glob hg h0 (v := .ref (T c).1) rfl hd) hb).of fun σ H Q ⟨S, τ, QD, sr, h, k⟩ => ⟨_, mc, v, u, rfl, h1, h2, k H v (.v 2 d) sr.same (h3 _ _ _) h⟩
/-- .. by a local that holds the class -/
theorem de_ccstL {i : Nat} {d : D} (h : CCst X.K T X.mg x c f d) {y : Str} (hN : X.N[i]? = some y) (hv : Vis X.env.scope y) (hb : attributeBase (.Name y p) f X.env (eval (.Name y p) X.env) = eval (.Name y p) X.env := by rfl) (hd : (y == ("__debug__" : Str)) = false := by decide) (hcd : (y == ("__classdict__" : Str)) = false := by decide) :
    PE X (.Attribute (.Name y p) f pos) (UpE X.K T fun τ Q => dVar i τ fun s => s.d = .cls c ∧ Q (.v 2 d)) := by
  obtain ⟨h0, mc, v, u, h1, h2, h3⟩ := h.ex
  exact (ClX.pe_cval (de_var (T := T) (i := i) hN hv hd hcd) hb).of fun σ H Q ⟨S, τ, QD, sr, h, k⟩ => ⟨S, τ, _, sr, h, fun H1 w sl a r ⟨q1, q⟩ => by
    have rg := r.g sr
    rw [q1] at rg
    obtain rfl : w = .ref (T c).1 := rg
    exact ⟨_, mc, v, u, rfl, h1, h2, k H1 v (.v 2 d) a (h3 _ _ _) q⟩⟩
end

/-! ### classmethods -/
/-- C.m of the class c, a classmethod; its def keeps C -/
structure Cm (P : Program) (w : World) (K : PySem.W.Frag) (T : Tab) (mg : Str → Option Value) (base : Heap) (x : Str) (c : Nat) (m : Str) (k : Nat) (dd : List D) (C : Ctr) : Prop where
  ex : mg x = some (.ref (T c).1) ∧ ∃ (mc : Value) (p g : Addr) (fd : FuncData) (ps : List Str) (ds : List Value) (dvs : List V), ClX.CRead K (T c).1 mc ∧ ClX.CMet K (T c).1 mc m p g ∧ Binds K fd ps ds ∧ Vals dvs ds ∧ isScs dd dvs ∧ FnOk P w K mg base CX0 k g fd ps (spC K T C)
@[simp] def dCm (c : Nat) (C : Ctr) (dd : List D) (ta : DTA) : DTE := fun τ Q => ta τ fun _ ds => C (.cls c :: (ds ++ dd)) Q
section
variable {X : Cx} {T : Tab} {CX : CXT} {x m : Str} {pos p apos : Pos} {c k : Nat} {e o : Expr} {es : List Expr} {t : DTA} {C : Ctr} {dd : List D} {sp : Sp} {E : XK} {mc : Value} {q g C0 : Addr} {pl : Sem Bool} {ta : TE}
theorem pe_cmeth0 (he : PE X o ta) (r : ClX.CRead X.K C0 mc) (cm : ClX.CMet X.K C0 mc m q g) (F : FnR X.prog X.w X.K X.mg X.base CX k g sp) (hr : Room k X.A) (hx : Passes CX X E)
    (ht : eval (.Call (.Attribute o m apos) [] [] pos) X.env = (do
      let ov ← eval o X.env
      standAt apos.atName
      let (f, first) ← holding [ov] (getMethod ov m pl)
      callWith pos f first (backTo pos (starEach [] X.env)) (backToKw pos (keywordEach [] X.env))) := by rfl) :
    PE X (.Call (.Attribute o m apos) [] [] pos) (ClX.tCMeth C0 sp E ta tNil) := by
  refine ⟨fun pins s σ H Q I h => ?_⟩
  refine PySem.W.methodCall_KW (pl := pl) (thn (he.run pins s σ H _ I h) fun u s1 ⟨y, H1, I1, rx, ex, q1⟩ => ?_) ht
  subst ex
  obtain rfl : u = Value.ref C0 := rx
  refine ClX.getmethcm_ok I1 r cm fun s2 I2 => ?_
  exact PySem.W.callWith_M0 (first := []) ⟨ClX.pin_at I2, I2.kIn⟩ cm.fi (ClX.run_cm F hr hx I2 .nil q1)
theorem de_cm0 (F : Cm X.prog X.w X.K T X.mg X.base x c m k dd C) (hr : Room k X.A) (hg : Gl X x) (hd : (x == ("__debug__" : Str)) = false := by decide)
    (ht : eval (.Call (.Attribute (.Name x p) m apos) [] [] pos) X.env = (do
      let ov ← eval (.Name x p) X.env
      standAt apos.atName
      let (f, first) ← holding [ov] (getMethod ov m pl)
      callWith pos f first (backTo pos (starEach [] X.env)) (backToKw pos (keywordEach [] X.env))) := by rfl) :
    PE X (.Call (.Attribute (.Name x p) m apos) [] [] pos) (UpE X.K T (dCm c C dd aNil)) := by
  obtain ⟨h0, mc, q, g, fd, ps, ds, dvs, h1, h2, h3, h4, h5, h6⟩ := F.ex
  exact (pe_cmeth0 (pe_glob hg h0 (v := .ref (T c).1) rfl hd) h1 h2 (h6.raw h3 h4) hr pass0' ht).of fun σ H Q ⟨S, τ, QD, sr, h, k⟩ =>
    ⟨rfl, spC_of (g := 2) (E := fun _ _ _ => True) sr (ds := .cls c :: dd) (vs := .ref (T c).1 :: dvs) ⟨_, dvs, rfl, rfl, h5.rep⟩ h fun H' v sl a2 r2 q2 => k H' v sl a2 r2 q2⟩
theorem de_cm (F : Cm X.prog X.w X.K T X.mg X.base x c m k dd C) (hr : Room k X.A) (hg : Gl X x) (ha : PA X (e :: es) (UpA X.K T t)) (hd : (x == ("__debug__" : Str)) = false := by decide)
    (hst : starEach (e :: es) X.env = (false, eval e X.env) :: starEach es X.env := by rfl) (hpl : (backTo pos (starEach es X.env)).any (·.1) = false := by rfl)
    (ht : eval (.Call (.Attribute (.Name x p) m apos) (e :: es) [] pos) X.env = (do
      let ov ← eval (.Name x p) X.env
      standAt apos.atName
      let (f, first) ← holding [ov] (getMethod ov m pl)
      callWith pos f first (backTo pos (starEach (e :: es) X.env)) (backToKw pos (keywordEach [] X.env))) := by rfl) :
    PE X (.Call (.Attribute (.Name x p) m apos) (e :: es) [] pos) (UpE X.K T (dCm c C dd t)) := by
  obtain ⟨h0, mc, q, g, fd, ps, ds, dvs, h1, h2, h3, h4, h5, h6⟩ := F.ex
  exact (ClX.pe_cmeth (pe_glob hg h0 (v := .ref (T c).1) rfl hd) h1 h2 (h6.raw h3 h4) hr pass0' ha hst hpl ht).of fun σ H Q ⟨S, τ, QD, sr, h, k⟩ =>
    ⟨rfl, S, τ, _, sr, h, fun H1 vs g ds a r q => spC_of (E := fun _ _ _ => True) (sr.aft a) (ds := .cls c :: (ds ++ dd)) (vs := .ref (T c).1 :: (vs ++ dvs)) ⟨_, _, rfl, rfl, r.append h5.rep⟩ q fun H' v sl a2 r2 q2 => k H' v sl (a.trans a2) (r2.back a) q2⟩
end

/-! ### a class in a local, made -/
@[simp] def dMakeL (i c : Nat) (C : CtrI) (dd : List D) (ta : DTA) : DTE := fun τ Q => dVar i τ fun s => s.d = .cls c ∧ ta τ fun _ ds => C (ds ++ dd) fun fs => Q (.v 2 (.obj c fs))
section
variable {X : Cx} {T : Tab} {x y : Str} {pos p : Pos} {i c k : Nat} {e : Expr} {es : List Expr} {t : DTA} {Ci : CtrI} {dd : List D}
theorem de_mkL (F : Mkr X.prog X.w X.K T X.mg X.base x c k dd Ci) (hr : Room (k + 1) X.A) (hN : X.N[i]? = some y) (hv : Vis X.env.scope y) (ha : PA X (e :: es) (UpA X.K T t)) (hdb : (y == ("__debug__" : Str)) = false := by decide) (hcd : (y == ("__classdict__" : Str)) = false := by decide)
    (he : starEach (e :: es) X.env = (false, eval e X.env) :: starEach es X.env := by rfl) (hpl : (backTo pos (starEach es X.env)).any (·.1) = false := by rfl) : PE X (.Call (.Name y p) (e :: es) [] pos) (UpE X.K T (dMakeL i c Ci dd t)) := by
  obtain ⟨f, fd, ps, ds, dvs, h1, h2, h3, h4, h5, h6⟩ := F.ex
  refine ⟨fun pins s σ H Q I ⟨S, τ, QD, sr, h, k⟩ => ?_⟩
  refine wpAny_Call_Name_kw (thn ((de_var (T := T) (pos := p) (i := i) hN hv hdb hcd).run pins s σ H (fun v H1 => v = .ref (T c).1 ∧ UpA X.K T t σ H1 fun vs H2 => spI X.K T c Ci = spI X.K T c Ci ∧ ∀ x dx, H2 x = none → H2 dx = none → dx ≠ x → spI X.K T c Ci (.ref x :: (vs ++ dvs)) (upd (upd H2 dx (.own x)) x (.ins (T c).1 dx [])) (fun v H2 => v = .non ∧ Q (.ref x) H2) fun _ _ _ => True) I
    ⟨S, τ, _, sr, h, fun H1 v sl a r ⟨q1, q⟩ => ?_⟩) fun u s1 ⟨v, H1, I1, r1, e1, q1⟩ => ?_)
  · have rg := r.g sr
    rw [q1] at rg
    refine ⟨rg, S, τ, _, sr.aft a, q, fun H2 vs g ds a2 r2 q2 => ⟨rfl, ?_⟩⟩
    exact make_of ((sr.aft a).aft a2) (r2.append h5.rep) q2 fun H' v sl a3 r3 q3 => k H' v sl (a.trans (a2.trans a3)) (r3.back (a.trans a2)) q3
  · subst e1
    obtain rfl : u = Value.ref (T c).1 := r1
    refine PySem.W.callWith_K (h₀ := X.base) I.ok.mod.kin h1.kp (thn (ha.run pos pins s1 σ H1 _ I1 q1) fun us s2 ⟨vs, H2, I2, rv, _, q2⟩ => ⟨I2.kIn, ?_⟩) he hpl
    exact run_make h1 h6 hr h3 h4 pass0' I2 rv q2
end

/-! ### isinstance -/
@[simp] def kindD : D → String
  | .non => "NoneType"
  | .bl _ => "bool"
  | .int _ => "int"
  | .str _ => "str"
  | .tup _ => "tuple"
  | .lst _ => "list"
  | .bag => "list"
  | .obj _ _ => ""
  | .cls _ => ""
  | .lat _ _ => ""
  | .scr _ => ""
  | .exn _ _ _ _ => ""
def isKind : D → Bool
  | .obj _ _ => false
  | .cls _ => false
  | .lat _ _ => false
  | .scr _ => false
  | .exn _ _ _ _ => false
  | _ => true
theorem Rep.ty {K : PySem.W.Frag} {T : Tab} {B : Option Addr} {L : LX} {M : Addr → Prop} {H : Hp} (hb : BagOk T B L H) : ∀ (d : D) (v : V), isKind d = true → Rep K T B M H d v → TyX K H v (.type (kindD d))
  | .non, _, _, h => by rw [show _ = V.non from h]; exact .base .non
  | .bl b, _, _, h => by rw [show _ = V.bl b from h]; exact .base (.bl b)
  | .int i, _, _, h => by rw [show _ = V.int i from h]; exact .base (.int i)
  | .str x, _, _, h => by rw [show _ = V.str x from h]; exact .base (.str x)
  | .tup ds, _, _, ⟨a, vs, e, s, r⟩ => by
    rw [e]
    rcases s with (s | ⟨o, s⟩) | ⟨o, its, n, s1, s2, _⟩
    · exact .base (.tup s)
    · exact .fTuple s
    · exact .kTuple s1 s2
  | .lst ds, _, _, ⟨a, vs, e, s, m, r⟩ => by rw [e]; exact .base (.lst s)
  | .obj c ds, _, p, _ => by cases p
  | .bag, _, _, ⟨b, hB, e⟩ => by
    rw [e]
    obtain ⟨_, ns, i, x, m, c, h1, _⟩ := hb.bg b hB
    exact .base (.lst h1)
  | .cls _, _, p, _ => by cases p
  | .lat _ _, _, p, _ => by cases p
  | .scr _, _, p, _ => by cases p
  | .exn _ _ _ _, _, p, _ => by cases p
/-- built-in classes that the law and the program ask for -/
inductive BT where
  | tup | lst | bool | int | str
@[simp] def BT.n : BT → String
  | .tup => "tuple"
  | .lst => "list"
  | .bool => "bool"
  | .int => "int"
  | .str => "str"
@[simp] def isA : BT → D → Bool
  | .tup, .tup _ => true
  | .lst, .lst _ => true
  | .lst, .bag => true
  | .bool, .bl _ => true
  | .int, .int _ => true
  | .int, .bl _ => true
  | .str, .str _ => true
  | _, _ => false
theorem kit_isA {d : D} (n : BT) (h : isKind d = true) : kitB (kindD d) n.n = some (isA n d) := by
  cases n <;> cases d <;> first | (cases h; done) | (simp only [kindD, BT.n, isA]; decide +kernel)
/-- isinstance(x, T) -/
@[simp] def dIsI (n : BT) (ta : DTE) : DTE := fun τ Q => ta τ fun s => isKind s.d = true ∧ Q (.v 2 (.bl (isA n s.d)))
/-- isinstance(x, (T, U)) -/
@[simp] def dIsI2 (n m : BT) (ta : DTE) : DTE := fun τ Q => ta τ fun s => isKind s.d = true ∧ Q (.v 2 (.bl (isA n s.d || isA m s.d)))
/-- isinstance(x, C), C of the program's own, x of built-in kinds or an instance of C -/
@[simp] def isObj (c : Nat) : D → Bool
  | .obj c' _ => c' == c
  | _ => false
section
variable {X : Cx} {T : Tab} {e : Expr} {te : DTE} {n m x y : Str} {b b' : BT} {p p1 p2 p3 pos : Pos} {k1 : Nat}
theorem de_isI (n : BT) (hg : Gl X "isinstance") (hm : X.mg "isinstance" = none) (hgt : Gl X y) (hmt : X.mg y = none) (hv : bootBuiltins y = some (.type n.n)) (he : PE X e (UpE X.K T te)) (hy : y ≠ "__name__" := by decide) (hdy : (y == ("__debug__" : Str)) = false := by decide)
    (hs : starEach [e, .Name y p1] X.env = (false, eval e X.env) :: starEach [.Name y p1] X.env := by rfl) (hpl : (backTo pos (starEach [.Name y p1] X.env)).any (·.1) = false := by rfl)
    (ha : PA X [e, .Name y p1] (tCons (UpE X.K T te) (tCons (tC (.ty n.n)) tNil)) := by exact pa_cons (by assumption) (pa_cons (pe_bltn (by assumption) (by assumption) (by assumption) rfl (by assumption) (by assumption)) pa_nil)) :
    PE X (.Call (.Name "isinstance" p) [e, .Name y p1] [] pos) (UpE X.K T (dIsI n te)) :=
  (pe_callB call_isi hg hm (by decide +kernel) ha (by decide) (by decide) hs hpl).of fun σ H Q ⟨S, τ, QD, sr, h, k⟩ => ⟨S, τ, _, sr, h, fun H1 v sl a r ⟨q1, q⟩ =>
    ⟨v, .ty n.n, _, _, isA n sl.d, rfl, .ty _, Rep.ty a.bag sl.d v q1 (r.g sr), kit_ty (kit_isA n q1), k H1 _ (.v 2 (.bl _)) a rfl q⟩⟩
theorem de_isI2 (n m : BT) {z : Str} (hg : Gl X "isinstance") (hm : X.mg "isinstance" = none) (hgt : Gl X y) (hmt : X.mg y = none) (hv : bootBuiltins y = some (.type n.n)) (hgz : Gl X z) (hmz : X.mg z = none) (hvz : bootBuiltins z = some (.type m.n)) (he : PE X e (UpE X.K T te))
    (hy : y ≠ "__name__" := by decide) (hdy : (y == ("__debug__" : Str)) = false := by decide) (hz : z ≠ "__name__" := by decide) (hdz : (z == ("__debug__" : Str)) = false := by decide)
    (hs : starEach [e, .Tuple [.Name y p1, .Name z p2] k1 p3] X.env = (false, eval e X.env) :: starEach [.Tuple [.Name y p1, .Name z p2] k1 p3] X.env := by rfl) (hpl : (backTo pos (starEach [.Tuple [.Name y p1, .Name z p2] k1 p3] X.env)).any (·.1) = false := by rfl)
    (ha : PA X [e, .Tuple [.Name y p1, .Name z p2] k1 p3] (tCons (UpE X.K T te) (tCons (tTup (tCons (tC (.ty n.n)) (tCons (tC (.ty m.n)) tNil))) tNil)) := by
      exact pa_cons (by assumption) (pa_cons (pe_tup (pa_cons (pe_bltn (by assumption) (by assumption) (by assumption) rfl (by assumption) (by assumption)) (pa_cons (pe_bltn (by assumption) (by assumption) (by assumption) rfl (by assumption) (by assumption)) pa_nil))) pa_nil)) :
    PE X (.Call (.Name "isinstance" p) [e, .Tuple [.Name y p1, .Name z p2] k1 p3] [] pos) (UpE X.K T (dIsI2 n m te)) :=
  (pe_callB call_isiT hg hm (by decide +kernel) ha (by decide) (by decide) hs hpl).of fun σ H Q ⟨S, τ, QD, sr, h, k⟩ => ⟨S, τ, _, sr, h, fun H1 v sl a r ⟨q1, q⟩ =>
    ⟨Nat.le_trans (show 2 ≤ 1000 by decide) (by rw [sizeLine_eq]; decide), fun p hp => by
      have s1 := sr.aft a
      have a2 := s1.laid (o := .tup [.ty n.n, .ty m.n]) hp
      refine ⟨v, p, _, _, [.type n.n, .type m.n], isA n sl.d || isA m sl.d, rfl, upd_same, .cons (.ty _) (.cons (.ty _) .nil), Rep.ty a2.bag sl.d v q1 (s1.rep a2.kp (r.g sr)), ?_, k _ _ (.v 2 (.bl _)) (a.trans a2) rfl q⟩
      refine kitAny_cons (kit_ty (kit_isA n q1)) (fun z => ?_) fun z => by rw [z]; rfl
      refine kitAny_cons (kit_ty (kit_isA m q1)) (fun z2 => ?_) fun z2 => by rw [z, z2]; rfl
      rw [z, z2]
      rfl⟩⟩
end
/-- a def with a promise that nobody can ask for -/
theorem fn_false {P : Program} {w : World} {K : PySem.W.Frag} {T : Tab} {mg : Str → Option Value} {base : Heap} {x qual : Str} {params : Arguments} {body : List Stmt} {scope : Scope} {dvs : List V} {kws : List (Str × V)} {f : Addr} {fd : FuncData} {N ps : List Str} {k : Nat}
    (F : FunD K x qual params body scope dvs kws f fd) (S : FnScope N ps scope) : FnOk P w K mg base CX0 (k + 1) f fd ps (spC K T fun _ _ => False) :=
  F.ok S (fun vs H Q E ⟨_, _, _, _, _, _, _, _, z, _⟩ => z.elim) (fun cdv A outer s H vs Q E hr ⟨_, _, _, _, _, _, _, _, z, _⟩ => z.elim)
end DL
/-! DL16: the law's drawing list: the frame that draws. -/
namespace DL
open PySem PySem.Spec PyProof.Rows L2
section
variable {K : PySem.W.Frag} {T : Tab} {S : Sit} {τ : DSt} {σ : L2.St} {H H' : Hp}
/-- a place of the drawing list is set, in the frame that draws -/
theorem SR.putB {ds es : List D} {x : Addr} {us : List V} (sr : SR K T S τ σ H) (e : τ[0]? = some (.ins 999 ds)) (eσ : σ[0]? = some (some (.ref x))) (r : RepsG K T S 2 H es us) :
    SR K T S (τ.set 0 (.ins 999 es)) σ (upd H x (.lst us)) ∧ Kp S.P H (upd H x (.lst us)) := by
  obtain ⟨_, x', dx', vs', e1, e2, e3, rs⟩ := sr.ins 0 999 ds e
  rw [eσ] at e1
  have ez : x = x' := V.ref.inj (Option.some.inj (Option.some.inj e1))
  subst ez
  rw [insO_bag] at e2
  have hX := sr.xp x e3
  have k : Kp S.P H (upd H x (.lst us)) := Kp.write hX.1 e2
  have sub : ∀ g, 1 ≤ g → ∀ a, S.P a → gset S g a := fun g hg a z => match g, hg with
    | 1, _ => z
    | _ + 2, _ => .inl z
  refine ⟨⟨by rw [List.length_set]; exact sr.len, sr.bp, fun a h => k.s a (sr.al a h), sr.ml, ⟨fun a o h n tt => ?_, fun a xs h => k.t a xs (sr.kp.t a xs h), fun a o w h => k.z a o w (sr.kp.z a o w h), fun a h => k.s a (sr.kp.s a h)⟩, sr.xp, sr.fr, sr.bl, ?_, sr.lp, fun j g d' q => ?_, fun j fs q => ?_, fun j c' fs q => ?_, fun y hy => ⟨(sr.gh y hy).1, Rep.kp k (sub y.1 (sr.gh y hy).1) _ _ (sr.gh y hy).2⟩, fun j l fs gs q q1 q2 q3 q4 => ?_⟩, k⟩
  · rw [upd_ne fun z => n (.inr (by rw [z]; exact e3))]
    exact sr.kp.k0 a o h n tt
  · refine sr.bag.kp (N := fun a => a = x) (Kp.write rfl e2) (Tk.write e2 (fun _ z => by cases z) fun _ z => by cases z) fun b hb => ⟨fun z => hX.2 (z ▸ hb), fun z => ?_⟩
    have z : S.L.a = x := z
    exact sr.lp b hb (by rw [z]; exact hX.1)
  · by_cases hj' : 0 = j
    · subst hj'
      cases (set_at q).2
    · rw [List.getElem?_set_ne hj'] at q
      obtain ⟨hg, v, q1, h⟩ := sr.val j g d' q
      exact ⟨hg, v, q1, Rep.kp k (sub g hg) d' v h⟩
  · by_cases hj' : 0 = j
    · subst hj'
      cases (set_at q).2
    · rw [List.getElem?_set_ne hj'] at q
      obtain ⟨p2, ws, q1, q2, q3, q4, q5, h⟩ := sr.own j fs q
      exact ⟨p2, ws, q1, by rw [upd_ne fun z => q5 (by rw [z]; exact e3)]; exact q2, q3, q4, q5, Reps.kp k (sub 2 (by decide)) fs ws h⟩
  · by_cases hj' : 0 = j
    · subst hj'
      cases (set_at q).2
      exact ⟨rfl, x, dx', us, eσ, by rw [upd_same, insO_bag], e3, Reps.kp k (sub 2 (by decide)) _ _ r⟩
    · rw [List.getElem?_set_ne hj'] at q
      exact absurd (sr.ins j c' fs q).1.symm hj'
  · have old : ∀ (j : Nat) (fs : List D), (τ.set 0 (.ins 999 es))[j]? = some (.own fs) → τ[j]? = some (.own fs) := fun j fs q => by
      by_cases hj : 0 = j
      · subst hj
        cases (set_at q).2
      · rw [List.getElem?_set_ne hj] at q; exact q
    exact sr.inj j l fs gs q (old j fs q1) (old l gs q2) q3 q4
end
/-- bag[j], read in the frame that draws -/
@[simp] def dBg (j : Nat) : DTE := fun τ Q => match τ[(0 : Nat)]? with
  | some (.ins 999 ds) => match ds[j]? with
    | some (.lat _ es) => Q (.v 2 (.lst es))
    | some d => Q (.v 2 d)
    | none => False
  | _ => False
/-- bag[j] = .. -/
@[simp] def gBg (j : Nat) : DTG := fun g d τ Q => match τ[(0 : Nat)]? with
  | some (.ins 999 ds) => (Nat.ble 2 g || d.imm) = true ∧ j < ds.length ∧ Q (τ.set 0 (.ins 999 (ds.set j d)))
  | _ => False
section
variable {X : Cx} {T : Tab} {x : Str} {i : Int} {j k1 : Nat} {p p1 p2 pos : Pos}
theorem ixN_nat {n j : Nat} (h : j < n) : ixN n (j : Int) = some j := by
  unfold ixN
  rw [if_pos (by omega), if_pos (by omega)]
  rfl
theorem de_bg (hi : i = (j : Int)) (hN : X.N[0]? = some x) (hv : Vis X.env.scope x) (hd : (x == ("__debug__" : Str)) = false := by decide) (hcd : (x == ("__classdict__" : Str)) = false := by decide)
    (hs : PlainIx (.Constant (.int i) k1 p1) := by exact fun _ _ => rfl) : PE X (.Subscript (.Name x p) (.Constant (.int i) k1 p1) pos) (UpE X.K T (dBg j)) :=
  (pe_ix ix_list (pe_var hN hv hd hcd) pe_int hs).of fun σ H Q ⟨S, τ, QD, sr, h, k⟩ => by
    subst hi
    unfold dBg at h
    split at h
    · rename_i ds e0
      obtain ⟨_, y, dx, vs, e1, e2, e3, rs⟩ := sr.ins 0 999 ds e0
      rw [insO_bag] at e2
      split at h
      · rename_i a es ed
        obtain ⟨v, h1, ws, rfl, h2, h3, h4⟩ := rs.get ed
        exact ⟨.ref y, e1, y, vs, j, .ref a, rfl, rfl, SqL.of e2, (atI_k _ _).trans h1, k H (.ref a) (.v 2 (.lst es)) sr.same ⟨a, ws, rfl, h2, h3, h4⟩ h⟩
      · rename_i d _ ed
        obtain ⟨v, h1, h2⟩ := rs.get ed
        exact ⟨.ref y, e1, y, vs, j, v, rfl, rfl, SqL.of e2, (atI_k _ _).trans h1, k H v (.v 2 d) sr.same h2 h⟩
      · exact h.elim
    · exact h.elim
theorem dg_bg (hi : i = (j : Int)) (hN : X.N[0]? = some x) (hv : Vis X.env.scope x) (hd : (x == ("__debug__" : Str)) = false := by decide) (hcd : (x == ("__classdict__" : Str)) = false := by decide)
    (ha : ∀ v, assign (.Subscript (.Name x p1) (.Constant (.int i) k1 p2) pos) X.env v = (do
      let ov ← holding [v] (eval (.Name x p1) X.env)
      let iv ← holding [v, ov] (eval (.Constant (.int i) k1 p2) X.env)
      standAt pos
      holding [v, ov, iv] (setItem ov iv v)
      release [v, ov, iv] []) := by intro _; rfl) : PG X (.Subscript (.Name x p1) (.Constant (.int i) k1 p2) pos) (UpG X.K T (gBg j)) :=
  ⟨fun pins s σ H v u Q I r ⟨S, τ, g, d, QD, sr, rp, hw, k⟩ => (pg_sub (pe_var hN hv hd hcd) pe_int set_list ha).run pins s σ H v u Q I r (by
    subst hi
    unfold gBg at hw
    split at hw
    · rename_i ds e0
      obtain ⟨q1, q2, q3⟩ := hw
      obtain ⟨_, y, dx, vs, e1, e2, e3, rs⟩ := sr.ins 0 999 ds e0
      rw [insO_bag] at e2
      have rd : RepG X.K T S 2 H d v := by
        rcases Bool.or_eq_true_iff.mp q1 with z | z
        · match g, z, rp with
          | g + 2, _, rp => exact rp
        · exact Rep.imm d v z rp
      obtain ⟨s3, k3⟩ := sr.putB e0 e1 (rs.set j rd)
      exact ⟨.ref y, e1, y, vs, j, j, rfl, rfl, e2, ixN_nat (by rw [rs.len]; exact q2), k _ _ _ s3 k3 q3⟩
    · exact hw.elim)⟩
end
/-! ### the frame that draws -/
abbrev bagD (L : Addr) (ns : List Int) (i x m c : Int) : List D := [.lat L (ns.map D.int), .int i, .int x, .int m, .int c]
def bagGood (L : Addr) (τ : DSt) : Prop := ∃ (ns : List Int) (i x m c : Int), τ[(0 : Nat)]? = some (.ins 999 (bagD L ns i x m c)) ∧ 0 ≤ i ∧ 0 ≤ x ∧ 0 ≤ m ∧ m < 2147483563 ∧ 0 ≤ c
theorem ints_reps {K : PySem.W.Frag} {T : Tab} {B : Option Addr} {M : Addr → Prop} {H : Hp} : ∀ {ns : List Int} {vs : List V}, Reps K T B M H (ns.map D.int) vs → vs = ns.map V.int
  | [], _, h => h
  | n :: ns, _, ⟨v, r, e, h1, h2⟩ => by rw [e, show v = V.int n from h1, ints_reps h2]; rfl
/-- what drawing promises -/
def C_pull : Ctr := fun ds Q => match ds with
  | [.bag, .int n] => 0 < n ∧ n < 1073741824 ∧ ∀ k : Int, 0 ≤ k → k < n → Q (.v 2 (.int k))
  | _ => False
section
variable {P : Program} {w : World} {K : PySem.W.Frag} {T : Tab} {mg : Str → Option Value} {base : Heap} {x qual : Str} {params : Arguments} {body : List Stmt} {scope : Scope} {dvs : List V} {kws : List (Str × V)} {f : Addr} {fd : FuncData} {N ps : List Str} {k : Nat}
@[simp] def startP (N : List Str) (L : Addr) (ns : List Int) (i x m c n : Int) : DSt := Sl.ins 999 (bagD L ns i x m c) :: Sl.v 2 (.int n) :: List.replicate (N.length - 2) .un
theorem pull_ok (F : FunD K x qual params body scope dvs kws f fd) (S : FnScope N ps scope) (t : DTS) (hps : ps.length = 2)
    (hb : ∀ (cdv : Value) (A : Around) (outer : List Env) (s : Shared) (H : Hp) (E : XK), Room k (A.deeper (envOfC qual scope s.heap.objs.size f cdv)) → PSs (cxOf CX0 P w K mg base N qual scope f cdv A outer s H E).nox body (UpS K T ⟨mg, E⟩ t))
    (hp : ∀ (L : Addr) (ns : List Int) (i x m c n : Int), 0 ≤ i → 0 ≤ x → 0 ≤ m → m < 2147483563 → 0 ≤ c → 0 < n → n < 1073741824 → t { nx := fun _ => False, rt := fun _ => False, rb := fun τ d => bagGood L τ ∧ ∃ k : Int, d = .int k ∧ 0 ≤ k ∧ k < n } (startP N L ns i x m c n)) :
    FnOk P w K mg base CX0 (k + 1) f fd ps (spC K T C_pull) := by
  refine F.ok S (fun vs H Q E h => ?_) (fun cdv A outer s H vs Q E hr h => ⟨UpS K T ⟨mg, E⟩ t, (hb cdv A outer s H E hr).nox, ?_⟩)
  · obtain ⟨B, L, M, ds, QD, _, _, r, q, _⟩ := h
    rw [r.len, hps]
    match ds, q with
    | [.bag, .int n], _ => rfl
  · obtain ⟨B, L, M, ds, QD, bag, hm, r, q, kk⟩ := h
    match ds, q, r with
    | [.bag, .int n], ⟨q1, q2, q3⟩, ⟨_, _, e9, ⟨b, hB, e8⟩, _, _, e7, e6, e5⟩ =>
      subst hB
      rw [e5] at e7
      rw [show _ = V.int n from e6] at e7
      rw [e8, e7] at e9
      subst e9
      obtain ⟨nbl, ns, i, x, m, c, h1, h2, g1, g2, g3, g4, g5⟩ := bag.bg b rfl
      let H0 : Hp := fun a => if a = b then none else H a
      have h0 : ∀ a, a ≠ b → H0 a = H a := fun a z => if_neg z
      have h0b : H0 b = none := if_pos rfl
      have kp0 : ∀ {N : Addr → Prop}, Kp N H0 H := by
        intro N
        have st : ∀ a u, H0 a = some u → H a = some u := fun a u e => by
          by_cases z : a = b
          · rw [z, h0b] at e; cases e
          · rw [← h0 a z]; exact e
        refine ⟨fun a o e _ _ => st a o e, fun a xs e => st a _ e, fun a o u e => st a _ e, fun a e => ?_⟩
        · obtain ⟨o, e, t⟩ := e.ex
          exact Lv.of (st a o e) t
      have SR0 : SR K T ⟨none, L, some b, H0, fun _ => False, fun a => a = b, []⟩ (startP N L.a ns i x m c n) (start N [.ref b, .int n]) H := by
        have at_ : ∀ {i' : Nat} {s : Sl}, (startP N L.a ns i x m c n)[i']? = some s → (i' = 0 ∧ s = .ins 999 (bagD L.a ns i x m c)) ∨ (i' = 1 ∧ s = .v 2 (.int n)) ∨ s = .un := fun {i' s} e => by
          match i' with
          | 0 => cases e; exact .inl ⟨rfl, rfl⟩
          | 1 => cases e; exact .inr (.inl ⟨rfl, rfl⟩)
          | i' + 2 =>
            have e : (List.replicate (N.length - 2) Sl.un)[i']? = some s := e
            obtain ⟨_, e⟩ := List.getElem?_eq_some_iff.mp e
            rw [List.getElem_replicate] at e
            exact .inr (.inr e.symm)
        refine ⟨?_, fun a z => (by cases z), fun a z => ?_, fun a z => z.elim, kp0, fun a z => ?_, fun a z q q' => ?_, fun a z => (by cases z), ⟨fun b e => (by cases e), bag.tb⟩, fun b e => (by cases e), fun j g d e => ?_, fun j es e => ?_, fun j c' es e => ?_, fun y hy => (by cases hy), fun j l es fs p e => ?_⟩
        · unfold startP L2.start
          simp only [List.map_cons, List.map_nil, List.cons_append, List.nil_append, List.length_cons, List.length_replicate, List.length_nil]
        · have z : a = b := z
          rw [z]; exact Lv.of h1
        · cases z
          exact ⟨rfl, fun z => by cases z⟩
        · exact absurd (by rw [show a = b from z]) q'
        · rcases at_ e with ⟨_, e2⟩ | ⟨e1, e2⟩ | e2
          · cases e2
          · cases e2
            subst e1
            exact ⟨by decide, .int n, rfl, rfl⟩
          · cases e2
        · rcases at_ e with ⟨_, e2⟩ | ⟨e1, e2⟩ | e2 <;> cases e2
        · rcases at_ e with ⟨e1, e2⟩ | ⟨e1, e2⟩ | e2
          · cases e2
            subst e1
            refine ⟨rfl, b, 0, _, rfl, by rw [insO_bag]; exact h1, rfl, ?_⟩
            refine ⟨.ref L.a, _, rfl, ⟨ns.map V.int, rfl, h2, fun z => ?_, reps_ints⟩, _, _, rfl, rfl, _, _, rfl, rfl, _, _, rfl, rfl, _, _, rfl, rfl, rfl⟩
            exact Or.elim z (fun z => nbl (show L.a = b from z).symm) fun z => z
          · cases e2
          · cases e2
        · rcases at_ e with ⟨_, e2⟩ | ⟨e1, e2⟩ | e2 <;> cases e2
      refine ⟨_, _, _, SR0, hp L.a ns i x m c n g1 g2 g3 g4 g5 q1 q2, ⟨fun _ _ _ _ _ z => z.elim, fun _ _ _ _ _ z => z.elim, fun _ _ _ _ _ z => z.elim, fun _ _ _ _ _ _ z => z.elim, ?_, fun _ _ _ _ _ _ _ z => z.elim⟩⟩
      rintro P' τ' σ' H' d v sr' hsc ⟨⟨ns', i', x', m', c', e0, k1, k2, k3, k4, k5⟩, k, rfl, k6, k7⟩
      obtain rfl : v = .int k := hsc
      obtain ⟨_, y, dx, vs, e1, e2, e3, rs⟩ := sr'.ins 0 999 _ e0
      cases e3
      rw [insO_bag] at e2
      obtain ⟨v1, r1, rfl, f1, v2, r2, rfl, f2, v3, r3, rfl, f3, v4, r4, rfl, f4, v5, r5, rfl, f5, rfl⟩ := rs
      obtain ⟨ws, rfl, l1, l2, l3⟩ := f1
      obtain rfl : v2 = .int i' := f2
      obtain rfl : v3 = .int x' := f3
      obtain rfl : v4 = .int m' := f4
      obtain rfl : v5 = .int c' := f5
      obtain rfl := ints_reps l3
      refine kk H' (.int k) (.v 2 (.int k)) ⟨fun a o e n t => sr'.kp.k0 a o ((h0 a fun z => n (by rw [z])).trans e) (fun z => Or.elim z (fun z => by cases z) fun z => n (by exact z)) t, fun a xs e => sr'.kp.t a xs ?_, fun a o u e => sr'.kp.z a o u ?_, fun a e => ?_⟩ ⟨fun b' e => ?_, sr'.bag.tb⟩ rfl (q3 k k6 k7)
      · exact (h0 a fun z => by rw [z, h1] at e; cases e).trans e
      · exact (h0 a fun z => by rw [z, h1] at e; cases e).trans e
      · by_cases z : a = b
        · rw [z]; exact Lv.of e2
        · obtain ⟨o, e, t⟩ := e.ex
          exact sr'.kp.s a (Lv.of ((h0 a z).trans e) t)
      · cases e
        exact ⟨nbl, ns', i', x', m', c', e2, l1, k1, k2, k3, k4, k5⟩
end
/-! ### the drawing list is made -/
def C_bag : Ctr := fun ds Q => match ds with
  | [.scr _] => ∀ (ns : List Int) (m : Int), 0 ≤ m → m < 2147483563 → Q (.own (.lst (ns.map D.int) :: [.int 0, .int 0, .int m, .int 0]))
  | _ => False
/-- an element of a list, drawn -/
def C_of : Ctr := fun ds Q => match ds with
  | [.bag, .lst es] => immAll es = true ∧ 0 < es.length ∧ es.length < 1073741824 ∧ ∀ d ∈ es, Q (.v 2 d)
  | _ => False
/-! ### a law -/
/-! ### defs whose frames know their code object -/
theorem funD_okC {P : Program} {w : World} {K : PySem.W.Frag} {mg : Str → Option Value} {base : Heap} {x qual : Str} {params : Arguments} {body : List Stmt} {scope : Scope} {dvs : List V} {kws : List (Str × V)} {f : Addr} {fd : FuncData} {CX : CXT} {N ps : List Str} {k : Nat} {sp : Sp} (F : FunD K x qual params body scope dvs kws f fd) (S : FnScope N ps scope) (len : ∀ vs H Q E, sp vs H Q E → vs.length = ps.length)
    (hbody : ∀ (cdv : Value) (A : Around) (outer : List Env) (s : Shared) (H : Hp) (vs : List V) (Q : VK) (E : XK), fd.code = cdv → Room k (A.deeper (envOfC qual scope s.heap.objs.size f cdv)) → sp vs H Q E →
      ∃ t, PSs (cxOf CX P w K mg base N qual scope f cdv A outer s H E) body t ∧ t { nx := fun _ H' => Q .non H', rt := Q } (L2.start N vs) H) : FnOk P w K mg base CX (k + 1) f fd ps sp := by
  obtain ⟨oc, od, dV, kV, doc, pm, an, cdv, ct, osl, rfl, lk, hcd, _, _⟩ := F.ex
  exact fn_of lk hcd S len fun A outer s H vs Q E hr hsp => hbody cdv A outer s H vs Q E rfl hr hsp
def bagOut (sl : Sl) : Prop := ∃ (ns : List Int) (m : Int), sl = .own (.lst (ns.map D.int) :: [.int 0, .int 0, .int m, .int 0]) ∧ 0 ≤ m ∧ m < 2147483563
def spLaw (K : PySem.W.Frag) (T : Tab) : Sp := fun vs H Q _ => ∃ (a : Addr) (ns : List Int), vs = [.ref a] ∧ SqL K H a (ns.map V.int) ∧ LamX.Tabs (tabsT T) H ∧ ∀ H', Q (.bl true) H'
section
variable {P : Program} {w : World} {K : PySem.W.Frag} {T : Tab} {mg : Str → Option Value} {base : Heap} {x qual y : Str} {params : Arguments} {body rest : List Stmt} {scope : Scope} {dvs : List V} {kws : List (Str × V)} {f : Addr} {fd : FuncData} {N : List Str} {k i : Nat} {call : Expr} {p1 p2 : Pos} {sn : Str}
/-- the slots behind the first statement of a law: its drawing list in the second -/
@[simp] def startL (N : List Str) : DSt := .un :: .v 2 .bag :: List.replicate (N.length - 2) .un
theorem law_ok (F : FunD K x qual params body scope dvs kws f fd) (S : FnScope N [sn] scope) (t : DTS) (hbody : body = .Assign [.Name y p1] call p2 :: rest) (hN : N[1]? = some y) (hlen : 2 ≤ N.length)
    (hb : ∀ (cdv : Value) (A : Around) (outer : List Env) (s : Shared) (H : Hp) (E : XK), fd.code = cdv → Room k (A.deeper (envOfC qual scope s.heap.objs.size f cdv)) →
      ∃ TS1 : TS, PS (cxOf CX0 P w K mg base N qual scope f cdv A outer s H E).nox (.Assign [.Name y p1] call p2) TS1 ∧ (∀ D σ H', UpE K T (dCall C_bag [] (aCons (dVar 0) aNil)) σ H' (fun v H1 => D.nx (σ.set 1 (some v)) H1) → TS1 D σ H') ∧
      PSs (cxOf CX0 P w K mg base N qual scope f cdv A outer s H E).nox rest (UpS K T ⟨mg, E⟩ t))
    (hp : t { nx := fun _ => False, rt := fun sl => ∃ g, sl = .v g (.bl true) } (startL N)) : FnOk P w K mg base CX0 (k + 1) f fd [sn] (spLaw K T) := by
  refine funD_okC F S (fun vs H Q E h => ?_) (fun cdv A outer s H vs Q E hcd hr h => ?_)
  · obtain ⟨a, ns, rfl, _⟩ := h
    rfl
  · obtain ⟨a, ns, rfl, hS, hTT, hQ⟩ := h
    obtain ⟨TS1, w1, i1, w2⟩ := hb cdv A outer s H E hcd hr
    subst hbody
    refine ⟨_, PSs.nox (pss_cons w1 w2), i1 _ _ _ ?_⟩
    have r0 : Reps K T none (fun a => none = some a) H [.scr ns] [.ref a] := by
      refine Reps.one ⟨a, rfl, ?_⟩
      rcases hS with hS | hS
      · exact .inl ⟨hS, fun z => by cases z⟩
      · exact .inr hS
    refine ⟨⟨none, ⟨0⟩, none, H, fun _ => False, fun a => none = some a, []⟩, startD N [.scr ns], bagOut, sr_start ⟨fun b e => (by cases e), hTT⟩ (fun a z => z.elim) r0, fun ns m h1 h2 => ⟨ns, m, rfl, h1, h2⟩, fun H1 v sl a1 r1 q1 => ?_⟩
    · obtain ⟨ns', m, rfl, h1, h2⟩ := q1
      · skip
        obtain ⟨p, vs, rfl, e1, e2, v1, r1', rfl, ⟨L, ws, rfl, l1, l2, l3⟩, _, _, rfl, f2, _, _, rfl, f3, _, _, rfl, f4, _, _, rfl, f5, rfl⟩ := r1
        cases f2
        cases f3
        cases f4
        cases f5
        obtain rfl := ints_reps l3
        have nL : L ≠ p := fun z => l2 (.inr z)
        refine ⟨⟨some p, ⟨L⟩, none, H1, fun _ => False, fun a => a = p, []⟩, startL N, { nx := fun _ => False, rt := fun sl => ∃ g, sl = .v g (.bl true) }, ?_, hp, ⟨fun _ _ _ _ _ z => z.elim, fun _ _ _ _ _ z => z.elim, fun _ _ _ _ _ z => z.elim, fun H' v sl _ _ rr ⟨g, z⟩ => ?_, fun _ _ _ _ _ _ _ _ z => z.elim, fun _ _ _ _ _ _ _ z => z.elim⟩⟩
        · have at_ : ∀ {i' : Nat} {s : Sl}, (startL N)[i']? = some s → (i' = 1 ∧ s = .v 2 .bag) ∨ s = .un := fun {i' s} e => by
            match i' with
            | 0 => cases e; exact .inr rfl
            | 1 => cases e; exact .inl ⟨rfl, rfl⟩
            | i' + 2 =>
              have e : (List.replicate (N.length - 2) Sl.un)[i']? = some s := e
              obtain ⟨_, e⟩ := List.getElem?_eq_some_iff.mp e
              rw [List.getElem_replicate] at e
              exact .inr e.symm
          have hl : (start N [V.ref a]).length = N.length := by
            unfold L2.start
            rw [List.length_append, List.length_map, List.length_replicate, List.length_cons, List.length_nil]
            omega
          refine ⟨?_, fun a z => ?_, fun a z => ?_, fun a z => z.elim, Kp.refl, fun a z => (by cases z), fun a z q _ => ?_, fun a z => ?_, ⟨fun b e => ?_, a1.bag.tb⟩, fun b e z => ?_, fun j g d e => ?_, fun j es e => ?_, fun j c' es e => ?_, fun y hy => (by cases hy), fun j l es fs p e => ?_⟩
          · rw [List.length_set, hl]
            unfold startL
            rw [List.length_cons, List.length_cons, List.length_replicate]
            omega
          · cases z
            rfl
          · rw [show a = p from z]; exact Lv.of e2
          · exact absurd (by rw [show a = p from z]) q
          · cases z
            exact Lv.of e2
          · cases e
            exact ⟨Ne.symm nL, ns', 0, 0, m, 0, e2, l1, by decide, by decide, h1, h2, by decide⟩
          · exact nL z
          · rcases at_ e with ⟨e1, e2⟩ | e2
            · cases e2
              subst e1
              exact ⟨by decide, .ref p, List.getElem?_set_self (by rw [hl]; omega), p, rfl, rfl⟩
            · cases e2
          · rcases at_ e with ⟨_, e2⟩ | e2 <;> cases e2
          · rcases at_ e with ⟨_, e2⟩ | e2 <;> cases e2
          · rcases at_ e with ⟨_, e2⟩ | e2 <;> cases e2
        · subst z
          rw [show v = V.bl true from rr]
          exact hQ H'
end
end DL
/-! DL17: what the plain part computes with. -/
namespace DL
open PySem PySem.Spec PyProof.Rows L2
mutual
@[simp] def lay : D → Bool
  | .non => true
  | .bl _ => true
  | .int _ => true
  | .str x => PyData.strOk x
  | .tup ds => lays ds
  | .lst ds => lays ds
  | .obj _ _ => false
  | .bag => false
  | .cls _ => false
  | .lat _ _ => false
  | .scr _ => false
  | .exn _ _ _ _ => false
@[simp] def lays : List D → Bool
  | [] => true
  | d :: ds => lay d && lays ds
end
mutual
@[simp] def dep : D → Nat
  | .tup ds => deps ds + 1
  | .lst ds => deps ds + 1
  | _ => 0
@[simp] def deps : List D → Nat
  | [] => 0
  | d :: ds => max (dep d) (deps ds)
end
mutual
theorem lay_eq : ∀ d : D, lay d = (d.plain && PyData.canLay0 d.py)
  | .non => rfl
  | .bl _ => rfl
  | .int _ => rfl
  | .str x => rfl
  | .tup ds => by show lays ds = (plains ds && PyData.canLayAll0 (pys ds)); exact lays_eq ds
  | .lst ds => by show lays ds = (plains ds && PyData.canLayAll0 (pys ds)); exact lays_eq ds
  | .obj _ _ => rfl
  | .bag => rfl
  | .cls _ => rfl
  | .lat _ _ => rfl
  | .scr _ => rfl
  | .exn _ _ _ _ => rfl
theorem lays_eq : ∀ ds : List D, lays ds = (plains ds && PyData.canLayAll0 (pys ds))
  | [] => rfl
  | d :: ds => by
    show (lay d && lays ds) = ((d.plain && plains ds) && (PyData.canLay0 d.py && PyData.canLayAll0 (pys ds)))
    rw [lay_eq d, lays_eq ds]
    cases d.plain <;> cases plains ds <;> cases PyData.canLay0 d.py <;> rfl
end
mutual
theorem dep_eq : ∀ d : D, d.py.depth = dep d
  | .non => rfl
  | .bl _ => rfl
  | .int _ => rfl
  | .str x => rfl
  | .tup ds => by show PyData.depthAll (pys ds) + 1 = deps ds + 1; rw [deps_eq ds]
  | .lst ds => by show PyData.depthAll (pys ds) + 1 = deps ds + 1; rw [deps_eq ds]
  | .obj _ _ => rfl
  | .bag => rfl
  | .cls _ => rfl
  | .lat _ _ => rfl
  | .scr _ => rfl
  | .exn _ _ _ _ => rfl
theorem deps_eq : ∀ ds : List D, PyData.depthAll (pys ds) = deps ds
  | [] => rfl
  | d :: ds => by
    show max (PyData.depth d.py) (PyData.depthAll (pys ds)) = max (dep d) (deps ds)
    rw [dep_eq d, deps_eq ds]
end
@[simp] theorem shp_eq (d : D) : shp d = (lay d && decide (dep d ≤ 64)) := by
  unfold shp SeqAt.shaped
  rw [lay_eq, dep_eq, Bool.and_assoc]
@[simp] theorem lays_app (xs ys : List D) : lays (xs ++ ys) = (lays xs && lays ys) := by
  induction xs with
  | nil => rfl
  | cons x xs ih => simp [ih, Bool.and_assoc]
@[simp] theorem deps_app (xs ys : List D) : deps (xs ++ ys) = max (deps xs) (deps ys) := by
  induction xs with
  | nil => simp
  | cons x xs ih => simp [ih, Nat.max_assoc]
@[simp] theorem ixN_last (n : Nat) : ixN (n + 1) (-1) = some n := by
  unfold ixN
  rw [if_neg (by decide), if_pos (by omega)]
  congr 1
  omega
@[simp] theorem ixN_0 (n : Nat) : ixN (n + 1) 0 = some 0 := by
  unfold ixN
  rw [if_pos (by decide), if_pos (by omega)]
  rfl
@[simp] theorem set_app_len {α : Type} (l : List α) (a b : α) : (l ++ [a]).set l.length b = l ++ [b] := by
  induction l with
  | nil => rfl
  | cons x l ih => simp [ih]
@[simp] theorem max_le_ (a b c : Nat) : (max a b ≤ c) = (a ≤ c ∧ b ≤ c) := propext Nat.max_le
@[simp] theorem immAll_app (xs ys : List D) : immAll (xs ++ ys) = (immAll xs && immAll ys) := by
  induction xs with
  | nil => rfl
  | cons x xs ih => simp [ih, Bool.and_assoc]
@[simp] def eqBs : List D → List D → Bool
  | [], [] => true
  | x :: xs, y :: ys => eqB x y && eqBs xs ys
  | _, _ => false
theorem eqvAll_eq : ∀ xs ys : List D, PyData.eqvAll (pys xs) (pys ys) = eqBs xs ys
  | [], [] => rfl
  | x :: xs, y :: ys => by show (PyData.eqv x.py y.py && PyData.eqvAll (pys xs) (pys ys)) = _; rw [eqvAll_eq xs ys]; rfl
  | [], _ :: _ => rfl
  | _ :: _, [] => rfl
@[simp] theorem eqB_tup (xs ys : List D) : eqB (.tup xs) (.tup ys) = eqBs xs ys := eqvAll_eq xs ys
@[simp] theorem eqB_lst (xs ys : List D) : eqB (.lst xs) (.lst ys) = eqBs xs ys := eqvAll_eq xs ys
@[simp] theorem eqB_int (i j : Int) : eqB (.int i) (.int j) = decide (i = j) := rfl
@[simp] theorem eqB_bl (i j : Bool) : eqB (.bl i) (.bl j) = (i == j) := rfl
@[simp] theorem eqB_str (i j : Str) : eqB (.str i) (.str j) = (i == j) := rfl
@[simp] theorem eqB_non : eqB .non .non = true := rfl
@[simp] theorem eqB_ni (j : Int) : eqB .non (.int j) = false := rfl
@[simp] theorem eqB_in (j : Int) : eqB (.int j) .non = false := rfl
@[simp] theorem eqB_ns (j : Str) : eqB .non (.str j) = false := rfl
@[simp] theorem eqB_sn (j : Str) : eqB (.str j) .non = false := rfl
@[simp] theorem eqB_nt (xs : List D) : eqB .non (.tup xs) = false := rfl
@[simp] theorem eqB_tn (xs : List D) : eqB (.tup xs) .non = false := rfl
@[simp] theorem eqB_nl (xs : List D) : eqB .non (.lst xs) = false := rfl
@[simp] theorem eqB_ln (xs : List D) : eqB (.lst xs) .non = false := rfl
@[simp] theorem eqB_nb (b : Bool) : eqB .non (.bl b) = false := rfl
@[simp] theorem eqB_bn (b : Bool) : eqB (.bl b) .non = false := rfl
@[simp] theorem eqB_is (i : Int) (x : Str) : eqB (.int i) (.str x) = false := rfl
@[simp] theorem eqB_si (i : Int) (x : Str) : eqB (.str x) (.int i) = false := rfl
@[simp] theorem eqB_it (i : Int) (x : List D) : eqB (.int i) (.tup x) = false := rfl
@[simp] theorem eqB_ti (i : Int) (x : List D) : eqB (.tup x) (.int i) = false := rfl
@[simp] theorem eqB_il (i : Int) (x : List D) : eqB (.int i) (.lst x) = false := rfl
@[simp] theorem eqB_li (i : Int) (x : List D) : eqB (.lst x) (.int i) = false := rfl
@[simp] theorem eqB_st (i : Str) (x : List D) : eqB (.str i) (.tup x) = false := rfl
@[simp] theorem eqB_ts (i : Str) (x : List D) : eqB (.tup x) (.str i) = false := rfl
@[simp] theorem eqB_sl (i : Str) (x : List D) : eqB (.str i) (.lst x) = false := rfl
@[simp] theorem eqB_ls (i : Str) (x : List D) : eqB (.lst x) (.str i) = false := rfl
@[simp] theorem eqB_tl (y x : List D) : eqB (.tup x) (.lst y) = false := rfl
@[simp] theorem eqB_lt (y x : List D) : eqB (.lst x) (.tup y) = false := rfl
@[simp] theorem eqBs_nr (xs : List D) : eqBs xs [] = xs.isEmpty := by cases xs <;> rfl
@[simp] theorem eqBs_nl' (xs : List D) : eqBs [] xs = xs.isEmpty := by cases xs <;> rfl
@[simp] theorem strOk_lit (s : String) : PyData.strOk (Str.ofString s) = true := by
  unfold PyData.strOk
  rw [Str.ofString_eq_toList]
  show Array.all _ _ = true
  rw [← Array.all_toList, List.all_eq_true]
  intro n hn
  simp at hn
  obtain ⟨c, _, rfl⟩ := hn
  have h1 := c.valid
  have h2 : c.toNat < 1114112 := by
    rcases h1 with h1 | ⟨_, h1⟩
    · exact Nat.lt_trans h1 (by decide)
    · exact h1
  exact decide_eq_true h2
theorem ofString_inj {s t : String} (h : Str.ofString s = Str.ofString t) : s = t := by
  rw [Str.ofString_eq_toList, Str.ofString_eq_toList] at h
  have h1 : s.toList.map Char.toNat = t.toList.map Char.toNat := by
    have := congrArg (fun z : Str => z.cps.toList) h
    simpa using this
  have h2 : s.toList = t.toList := by
    refine List.map_inj_right (fun a b e => ?_) |>.mp h1
    exact Char.ext (UInt32.toNat_inj.mp e)
  exact String.ext h2
@[simp] theorem lit_beq (s t : String) : (Str.ofString s == Str.ofString t) = (s == t) := by
  by_cases h : s = t
  · rw [h]; simp
  · have h2 : ¬ (Str.ofString s = Str.ofString t) := fun z => h (ofString_inj z)
    rw [beq_eq_false_iff_ne.mpr h, beq_eq_false_iff_ne.mpr h2]
@[simp] theorem lit_eq (s t : String) : (Str.ofString s = Str.ofString t) = (s = t) := propext ⟨ofString_inj, fun h => by rw [h]⟩
end DL
/-! DL18: classes as the printed derivations ask for them; properties. -/
namespace DL
open PySem PySem.Spec PyProof.Rows L2
structure ClD (K : PySem.W.Frag) (T : Tab) (c : Nat) (fs : List Str) : Prop where
  cl : Cls K (T c).1
  fs_ : (T c).2 = fs
  nd_ : fs.Nodup
  le : fs.length < 1000
  no : ∀ f ∈ fs, NoAttr K (T c).1 f
section
variable {K : PySem.W.Frag} {T : Tab} {c j : Nat} {fs : List Str} {f : Str}
theorem ClD.nd (h : ClD K T c fs) : (T c).2.Nodup := by rw [h.fs_]; exact h.nd_
theorem ClD.h9 (h : ClD K T c fs) : (T c).2.length < 1000 := by rw [h.fs_]; exact h.le
theorem ClD.at_ (h : ClD K T c fs) (e : fs[j]? = some f) : (T c).2[j]? = some f := by rw [h.fs_]; exact e
theorem ClD.na (h : ClD K T c fs) (e : fs[j]? = some f) : NoAttr K (T c).1 f := h.no f (List.mem_of_getElem? e)
end
/-- a class constant by a local that holds the class -/
@[simp] def dCcL (i c : Nat) (d : D) : DTE := fun τ Q => dVar i τ fun s => s.d = .cls c ∧ Q (.v 2 d)
/-- a property of the class c -/
structure Pr (P : Program) (w : World) (K : PySem.W.Frag) (T : Tab) (mg : Str → Option Value) (base : Heap) (c : Nat) (f : Str) (k : Nat) (C : Ctr) : Prop where
  ex : ∃ (p g : Addr) (fd : FuncData) (ps : List Str), Cls K (T c).1 ∧ PropOf K (T c).1 f p g ∧ Binds K fd ps [] ∧ FnOk P w K mg base CX0 k g fd ps (spC K T C)
@[simp] def dProp (c : Nat) (C : Ctr) (to : DTE) : DTE := fun τ Q => to τ fun o => match o.d with
  | .obj c' fs => c' = c ∧ C [.obj c fs] Q
  | _ => False
section
variable {X : Cx} {T : Tab} {c k : Nat} {f : Str} {C : Ctr} {o : Expr} {to : DTE} {pos : Pos}
theorem de_prop (F : Pr X.prog X.w X.K T X.mg X.base c f k C) (hr : Room (k + 1) X.A) (he : PE X o (UpE X.K T to)) (hab : attributeBase o f X.env (eval o X.env) = eval o X.env := by rfl) : PE X (.Attribute o f pos) (UpE X.K T (dProp c C to)) := by
  obtain ⟨p, g, fd, ps, h1, h2, h3, h4⟩ := F.ex
  exact (pe_prop he h1 h2 h4 hr h3 .nil pass0' hab).of fun σ H Q ⟨S, τ, QD, sr, h, k⟩ => ⟨S, τ, _, sr, h, fun H1 v sl a r q => by
    have rg := r.g sr
    have s1 := sr.aft a
    cases sd : sl.d with
    | obj c' fs =>
      rw [sd] at q rg
      obtain ⟨rfl, q⟩ := q
      obtain ⟨ad, dx, ws, rfl, e1, e2, rs⟩ := id rg
      refine ⟨ad, dx, _, rfl, e1, ?_⟩
      exact spC_of (g := 0) (E := fun _ _ _ => True) s1 (ds := [.obj c' fs]) ⟨.ref ad, [], rfl, RepG.le s1 (Nat.zero_le _) rg, rfl⟩ q fun H' v sl a3 r3 q3 => k H' v sl (a.trans a3) (r3.back a) q3
    | _ => rw [sd] at q; exact (show False from q).elim⟩
end
/-! ### bundles made -/
section
variable {P : Program} {w : World} {K : PySem.W.Frag} {T : Tab} {mg : Str → Option Value} {base : Heap} {x m qual : Str} {params : Arguments} {body : List Stmt} {scope : Scope} {f : Addr} {fd : FuncData} {ps : List Str} {k c : Nat} {C : Ctr} {Ci : CtrI}
theorem mt_mk (F : FunD K m qual params body scope [] [] f fd) (cl : Cls K (T c).1) (hm : Meth K (T c).1 m f) (hn : m ∉ (T c).2) (ok : FnOk P w K mg base CX0 k f fd ps (spC K T C))
    (hb : ∀ (kV doc pm : Value) (an : Option Addr) (cdv ct : Value) (us : List Value), us.length = ps.length → bindArgs (PySem.W.fnOf m qual params body scope .none kV doc pm an cdv ct) ⟨us, []⟩ = pure (ps.zip us)) : Mt P w K T mg base c m k [] C :=
  ⟨f, fd, ps, [], [], cl, hm, hn, F.bindsN hb, .nil, rfl, ok⟩
theorem mkr_mk (F : FunD K m qual params body scope [] [] f fd) (hm : mg x = some (.ref (T c).1)) (mk : Mk K (T c).1 f) (ok : FnOk P w K mg base CX0 k f fd ps (spI K T c Ci))
    (hb : ∀ (kV doc pm : Value) (an : Option Addr) (cdv ct : Value) (us : List Value), us.length = ps.length → bindArgs (PySem.W.fnOf m qual params body scope .none kV doc pm an cdv ct) ⟨us, []⟩ = pure (ps.zip us)) : Mkr P w K T mg base x c k [] Ci :=
  ⟨f, fd, ps, [], [], mk, hm, F.bindsN hb, .nil, rfl, ok⟩
theorem cm_mk {mc : Value} {p : Addr} (F : FunD K m qual params body scope [] [] f fd) (hm : mg x = some (.ref (T c).1)) (hr : ClX.CRead K (T c).1 mc) (hc : ClX.CMet K (T c).1 mc m p f) (ok : FnOk P w K mg base CX0 k f fd ps (spC K T C))
    (hb : ∀ (kV doc pm : Value) (an : Option Addr) (cdv ct : Value) (us : List Value), us.length = ps.length → bindArgs (PySem.W.fnOf m qual params body scope .none kV doc pm an cdv ct) ⟨us, []⟩ = pure (ps.zip us)) : Cm P w K T mg base x c m k [] C :=
  ⟨hm, mc, p, f, fd, ps, [], [], hr, hc, F.bindsN hb, .nil, rfl, ok⟩
theorem pr_mk {p : Addr} (F : FunD K m qual params body scope [] [] f fd) (cl : Cls K (T c).1) (hp : PropOf K (T c).1 m p f) (ok : FnOk P w K mg base CX0 k f fd ps (spC K T C))
    (hb : ∀ (kV doc pm : Value) (an : Option Addr) (cdv ct : Value) (us : List Value), us.length = ps.length → bindArgs (PySem.W.fnOf m qual params body scope .none kV doc pm an cdv ct) ⟨us, []⟩ = pure (ps.zip us)) : Pr P w K T mg base c m k C :=
  ⟨p, f, fd, ps, cl, hp, F.bindsN hb, ok⟩
end
end DL
namespace DL
open PySem PySem.Spec PyProof.Rows L2
/-- max, min of three -/
@[simp] def fMax3 : DCB := fun _ ds Q => match ds with
  | [.int i, .int j, .int k] => Q (.v 2 (.int (max (max i j) k)))
  | _ => False
@[simp] def fMin3 : DCB := fun _ ds Q => match ds with
  | [.int i, .int j, .int k] => Q (.v 2 (.int (min (min i j) k)))
  | _ => False
section
variable {K : PySem.W.Frag} {T : Tab}
theorem Reps.three {B : Option Addr} {M : Addr → Prop} {H : Hp} {d e f : D} {vs : List V} (h : Reps K T B M H [d, e, f] vs) : ∃ v u x, vs = [v, u, x] ∧ Rep K T B M H d v ∧ Rep K T B M H e u ∧ Rep K T B M H f x := by
  obtain ⟨v, r, e1, h1, h⟩ := h
  obtain ⟨u, x, e2, h2, h3⟩ := h.two
  exact ⟨v, u, x, by rw [e1, e2], h1, h2, h3⟩
theorem nu3 {i j : Int} : nuLt (.int i) (.int j) = some (decide (i < j)) := rfl
theorem pickI {c : Bool} {i j : Int} : (if c = true then V.int j else V.int i) = V.int (if c = true then j else i) := by cases c <;> rfl
theorem cb_max3 : CBD K T (rNuC3 nuMax3) fMax3 := by
  intro S τ σ H g ds vs QD Q sr r q k
  unfold fMax3 at q
  split at q
  · rename_i i j l
    obtain ⟨v, u, x, rfl, r1, r2, r3⟩ := r.three
    obtain rfl : v = .int i := r1
    obtain rfl : u = .int j := r2
    obtain rfl : x = .int l := r3
    refine ⟨_, _, _, .int (max (max i j) l), rfl, ?_, k H _ (.v 2 (.int _)) sr.same rfl q⟩
    unfold nuMax3 nuMax2
    simp only [nu3, pickI, Option.map_some, Option.bind_some, decide_eq_true_eq]
    congr 2
    by_cases h : i < j
    · rw [if_pos h]
      by_cases h2 : j < l
      · rw [if_pos h2]; omega
      · rw [if_neg h2]; omega
    · rw [if_neg h]
      by_cases h2 : i < l
      · rw [if_pos h2]; omega
      · rw [if_neg h2]; omega
  · exact q.elim
theorem cb_min3 : CBD K T (rNuC3 nuMin3) fMin3 := by
  intro S τ σ H g ds vs QD Q sr r q k
  unfold fMin3 at q
  split at q
  · rename_i i j l
    obtain ⟨v, u, x, rfl, r1, r2, r3⟩ := r.three
    obtain rfl : v = .int i := r1
    obtain rfl : u = .int j := r2
    obtain rfl : x = .int l := r3
    refine ⟨_, _, _, .int (min (min i j) l), rfl, ?_, k H _ (.v 2 (.int _)) sr.same rfl q⟩
    unfold nuMin3 nuMin2
    simp only [nu3, pickI, Option.map_some, Option.bind_some, decide_eq_true_eq]
    congr 2
    by_cases h : j < i
    · rw [if_pos h]
      by_cases h2 : l < j
      · rw [if_pos h2]; omega
      · rw [if_neg h2]; omega
    · rw [if_neg h]
      by_cases h2 : l < i
      · rw [if_pos h2]; omega
      · rw [if_neg h2]; omega
  · exact q.elim
end
end DL
/-! DLH: a head by tests of what stands behind the start, and defs wherever they stand. -/
namespace DL
open PySem PySem.Spec PyProof.Rows L2
/-! ### data of the module -/
mutual
theorem datB_ok {K : PySem.W.Frag} (T : Tab) : ∀ (d : D) (u : Value), datB K d u = true → ∃ v, RelV v u ∧ KRep K T d v
  | .non, u, h => by
    cases u <;> first | exact ⟨.non, rfl, fun _ _ _ => rfl⟩ | cases h
  | .bl b, u, h => by
    cases u <;> first | (cases h; done) | skip
    rename_i c
    have e : b = c := eq_of_beq h
    exact ⟨.bl b, by rw [e]; rfl, fun _ _ _ => rfl⟩
  | .int i, u, h => by
    cases u <;> first | (cases h; done) | skip
    rename_i j t
    have e : i = j := of_decide_eq_true h
    exact ⟨.int i, ⟨t, by rw [e]⟩, fun _ _ _ => rfl⟩
  | .str x, u, h => by
    cases u <;> first | (cases h; done) | skip
    rename_i y t
    have e : x = y := of_decide_eq_true h
    exact ⟨.str x, ⟨t, by rw [e]⟩, fun _ _ _ => rfl⟩
  | .tup ds, u, h => by
    unfold datB at h
    split at h
    · rename_i a
      split at h
      · rename_i o e
        obtain ⟨h1, h2⟩ := Bool.and_eq_true_iff.mp h
        split at h2
        · rename_i its n e2
          obtain ⟨h3, h4⟩ := Bool.and_eq_true_iff.mp h2
          obtain ⟨vs, r1, r2⟩ := datBs_ok T ds its.toList h4
          refine ⟨.ref a, rfl, fun B M H => ⟨a, vs, rfl, .inr ⟨o, its, n, e, of_decide_eq_true h1, e2, ?_, r1⟩, r2 B M H⟩⟩
          exact Nat.le_trans (of_decide_eq_true h3) (by rw [sizeLine_eq]; decide)
        · cases h2
      · cases h
    · cases h
  | .lst _, _, h => by cases h
  | .obj _ _, _, h => by cases h
  | .bag, _, h => by cases h
  | .cls _, _, h => by cases h
  | .lat _ _, _, h => by cases h
  | .scr _, _, h => by cases h
  | .exn _ _ _ _, _, h => by cases h
theorem datBs_ok {K : PySem.W.Frag} (T : Tab) : ∀ (ds : List D) (us : List Value), datBs K ds us = true → ∃ vs, Vals vs us ∧ ∀ B M H, Reps K T B M H ds vs
  | [], us, h => by
    cases us with
    | nil => exact ⟨[], .nil, fun _ _ _ => rfl⟩
    | cons u us => cases h
  | d :: ds, us, h => by
    cases us with
    | nil => cases h
    | cons u us =>
      obtain ⟨h1, h2⟩ := Bool.and_eq_true_iff.mp (show (datB K d u && datBs K ds us) = true from h)
      obtain ⟨v, r1, k1⟩ := datB_ok T d u h1
      obtain ⟨vs, r2, k2⟩ := datBs_ok T ds us h2
      exact ⟨v :: vs, .cons r1 r2, fun B M H => ⟨v, vs, rfl, k1 B M H, k2 B M H⟩⟩
end
/-! ### single tests -/
section
variable {K : PySem.W.Frag} {T : Tab} {mg : Str → Option Value} {h : Heap} {x f m : Str} {d : D} {c : Nat}
theorem tCst_ok (X : K.In h) (G : h.Ns mainGlobals mg) (e : tCst x d K = true) : Cst K T mg x d := by
  unfold tCst at e
  split at e
  · rename_i u q
    obtain ⟨v, r, k⟩ := datB_ok T d u e
    exact ⟨v, u, PySem.W.mg_of X G q, r, k⟩
  · cases e
theorem tRead_ok (hT : (T c).1 = He.ga K x) (e : tRead x K = true) : ClX.CRead K (T c).1 (.type "type") := by
  obtain ⟨h1, h2⟩ := Bool.and_eq_true_iff.mp e
  rw [hT]
  exact ⟨h1, He.eqO_ok h2⟩
theorem tCVal_ok (hT : (T c).1 = He.ga K x) (hm : mg x = some (.ref (He.ga K x))) (r : tRead x K = true) (e : tCVal x f d K = true) : CCst K T mg x c f d := by
  unfold tCVal at e
  split at e
  · rename_i u q
    obtain ⟨v, r1, k⟩ := datB_ok T d u e
    exact ⟨by rw [hT]; exact hm, .type "type", v, u, tRead_ok hT r, ⟨by rw [hT]; exact q, r1⟩, k⟩
  · cases e
theorem tCMet_ok (hT : (T c).1 = He.ga K x) (e : tCMet x m K = true) : ClX.CMet K (T c).1 (.type "type") m (He.ma K (He.ga K x) m) (He5.wf K (He.ga K x) "classmethod" m) := by
  obtain ⟨h1, h2⟩ := Bool.and_eq_true_iff.mp e
  rw [hT]
  exact He5.cmet_of h1 h2
theorem tProp_ok (hT : (T c).1 = He.ga K x) (e : tProp x f K = true) : PropOf K (T c).1 f (He.ma K (He.ga K x) f) (He5.wf K (He.ga K x) "property" f) := by
  obtain ⟨h1, e⟩ := Bool.and_eq_true_iff.mp e
  obtain ⟨h2, e⟩ := Bool.and_eq_true_iff.mp e
  obtain ⟨h3, h4⟩ := Bool.and_eq_true_iff.mp e
  rw [hT]
  refine ⟨He.eqO_ok h3, He.eqO_ok h1, of_decide_eq_true h2, ?_⟩
  unfold He5.wf
  split at h4
  · rename_i g r q
    exact ⟨r, by rw [q]⟩
  · cases h4
end
/-! ### the whole -/
section
variable {ts : List Tst} {fn : List He5.DefA} {K : PySem.W.Frag}
theorem Seen.t (c : Seen ts fn K) (i : Nat) {t : Tst} (h : ts[i]? = some t := by rfl) : t K = true := by
  have q := congrArg (fun z : He.AlD => z.1) c.e
  exact List.all_eq_true.mp (Bool.and_eq_true_iff.mp (show (ts.all (fun t => t K) && fn.all (fun d => d.ok K)) = true from q)).1 t (List.mem_of_getElem? h)
theorem Seen.d (c : Seen ts fn K) (i : Nat) {d : He5.DefA} (h : fn[i]? = some d := by rfl) : ∃ fd, FunD K d.name d.qual d.params d.body d.scope (d.dvs K) (d.kws K) (d.at_ K) fd := by
  have q := congrArg (fun z : He.AlD => z.1) c.e
  have q2 := (Bool.and_eq_true_iff.mp (show (ts.all (fun t => t K) && fn.all (fun d => d.ok K)) = true from q)).2
  have q3 : fn.map (fun d => He5.fnA K (d.at_ K)) = fn.map He5.DefA.val := congrArg (fun z : He.AlD => z.2) c.e
  have q4 : (fn.map fun d => He5.fnA K (d.at_ K))[i]? = (fn.map He5.DefA.val)[i]? := by rw [q3]
  rw [List.getElem?_map, List.getElem?_map, h] at q4
  exact He5.DefA.funD (Option.some.inj q4) (List.all_eq_true.mp q2 d (List.mem_of_getElem? h))
end
end DL
/-! DLI: loops and comprehensions by invariants; slices. -/
namespace DL
open PySem PySem.Spec PyProof.Rows L2
theorem for_invA {g : Nat} {tg : DTG} {tb : DTS} {E : DEnds} (I : Nat → DSt → Prop) : ∀ (ds : List D) (n : Nat) (τ : DSt),
    (∀ k d τ (E' : DEnds), ds[k]? = some d → E'.rt = E.rt → E'.rb = E.rb → E'.bk = E.nx → (∀ τ', I (n + k + 1) τ' → E'.nx τ') → (∀ τ', I (n + k + 1) τ' → E'.ct τ') → I (n + k) τ → tg (up g d) d τ (tb E')) →
    (∀ τ, I (n + ds.length) τ → E.nx τ) → I n τ → forRec g tg tb E ds τ
  | [], n, τ, _, hf, h => hf τ h
  | d :: ds, n, τ, hs, hf, h => by
    have ih : ∀ τ', I (n + 0 + 1) τ' → forRec g tg tb E ds τ' := fun τ' h' => for_invA I ds (n + 1) τ'
      (fun k d τ E' e h1 h1b h2 h3 h4 h5 => hs (k + 1) d τ E' (by simpa using e) h1 h1b h2 (fun τ' z => h3 τ' (by rw [show n + 1 + k + 1 = n + (k + 1) + 1 by omega]; exact z)) (fun τ' z => h4 τ' (by rw [show n + 1 + k + 1 = n + (k + 1) + 1 by omega]; exact z)) (by rw [show n + (k + 1) = n + 1 + k by omega]; exact h5))
      (fun τ z => hf τ (by rw [show n + (d :: ds).length = n + 1 + ds.length by rw [List.length_cons]; omega]; exact z)) h'
    exact hs 0 d τ { E with nx := forRec g tg tb E ds, ct := forRec g tg tb E ds, bk := E.nx } rfl rfl rfl rfl ih ih h
/-- a for by what holds ahead of each turn -/
theorem for_inv {g : Nat} {tg : DTG} {tb : DTS} {E : DEnds} (I : Nat → DSt → Prop) {ds : List D} {τ : DSt} (h0 : I 0 τ)
    (hs : ∀ k d τ (E' : DEnds), ds[k]? = some d → E'.rt = E.rt → E'.rb = E.rb → E'.bk = E.nx → (∀ τ', I (k + 1) τ' → E'.nx τ') → (∀ τ', I (k + 1) τ' → E'.ct τ') → I k τ → tg (up g d) d τ (tb E'))
    (hf : ∀ τ, I ds.length τ → E.nx τ) : forRec g tg tb E ds τ :=
  for_invA I ds 0 τ (fun k d τ E' e h1 h1b h2 h3 h4 h5 => hs k d τ E' e h1 h1b h2 (fun τ' z => h3 τ' (by rw [Nat.zero_add]; exact z)) (fun τ' z => h4 τ' (by rw [Nat.zero_add]; exact z)) (by rw [Nat.zero_add] at h5; exact h5)) (fun τ z => hf τ (by rw [Nat.zero_add] at z; exact z)) h0
/-- over written-out data: xs stands for the data -/
theorem for_map {α : Type} (enc : α → D) {g : Nat} {tg : DTG} {tb : DTS} {E : DEnds} (I : List α → DSt → Prop) {xs : List α} {τ : DSt} (h0 : I [] τ)
    (hs : ∀ pre x post τ (E' : DEnds), xs = pre ++ x :: post → E'.rt = E.rt → E'.rb = E.rb → E'.bk = E.nx → (∀ τ', I (pre ++ [x]) τ' → E'.nx τ') → (∀ τ', I (pre ++ [x]) τ' → E'.ct τ') → I pre τ → tg (up g (enc x)) (enc x) τ (tb E'))
    (hf : ∀ τ, I xs τ → E.nx τ) : forRec g tg tb E (xs.map enc) τ := by
  refine for_inv (fun k τ => I (xs.take k) τ) h0 (fun k d τ E' e h1 h1b h2 h3 h4 h5 => ?_) fun τ z => hf τ (by rwa [List.length_map, List.take_length] at z)
  rw [List.getElem?_map] at e
  obtain ⟨x, e1, rfl⟩ := Option.map_eq_some_iff.mp e
  obtain ⟨hk, e2⟩ := List.getElem?_eq_some_iff.mp e1
  have e3 : xs.take (k + 1) = xs.take k ++ [x] := by rw [List.take_succ, e1]; rfl
  refine hs (xs.take k) x (xs.drop (k + 1)) τ E' ?_ h1 h1b h2 (fun τ' z => h3 τ' (by rw [e3]; exact z)) (fun τ' z => h4 τ' (by rw [e3]; exact z)) h5
  rw [← e2, ← List.drop_eq_getElem_cons hk, List.take_append_drop]
theorem rangeL_at : ∀ (n : Nat) (lo : Int) (k : Nat) (d : D), (rangeL lo n)[k]? = some d → k < n ∧ d = .int (lo + k)
  | 0, lo, k, d, e => by simp at e
  | n + 1, lo, 0, d, e => by simp at e; exact ⟨by omega, by rw [← e]; simp⟩
  | n + 1, lo, k + 1, d, e => by
    simp only [rangeL, List.getElem?_cons_succ] at e
    obtain ⟨h1, h2⟩ := rangeL_at n (lo + 1) k d e
    exact ⟨by omega, by rw [h2]; congr 1; omega⟩
/-- over range(lo, lo + n) -/
theorem for_rng {g : Nat} {tg : DTG} {tb : DTS} {E : DEnds} (I : Nat → DSt → Prop) {lo : Int} {n : Nat} {τ : DSt} (h0 : I 0 τ)
    (hs : ∀ (k : Nat) τ (E' : DEnds), k < n → E'.rt = E.rt → E'.rb = E.rb → E'.bk = E.nx → (∀ τ', I (k + 1) τ' → E'.nx τ') → (∀ τ', I (k + 1) τ' → E'.ct τ') → I k τ → tg (up g (.int (lo + k))) (.int (lo + k)) τ (tb E'))
    (hf : ∀ τ, I n τ → E.nx τ) : forRec g tg tb E (rangeL lo n) τ :=
  for_inv I h0 (fun k d τ E' e h1 h1b h2 h3 h4 h5 => by
    obtain ⟨hk, rfl⟩ := rangeL_at n lo k d e
    exact hs k τ E' hk h1 h1b h2 h3 h4 h5) fun τ z => hf τ (by rwa [rangeL_len] at z)
/-! ### comprehensions -/
/-- one element -/
@[simp] def compOne (g : Nat) (tg : DTG) (tt : DTT) (te : DTE) (τ : DSt) (acc : List D) (C : List D → Prop) (x : D) : Prop :=
  tg (up g x) x τ fun τ1 => tt τ1 fun b => if b = true then te τ1 fun sl => (Nat.ble 2 sl.g || sl.d.imm) = true ∧ acc.length < 1000000 ∧ C (acc ++ [sl.d]) else C acc
theorem comp_invA {g : Nat} {tg : DTG} {tt : DTT} {te : DTE} {τ : DSt} {Q : Sl → Prop} (J : Nat → List D → Prop) : ∀ (ds : List D) (n : Nat) (acc : List D),
    (∀ k d acc (C : List D → Prop), ds[k]? = some d → (∀ acc', J (n + k + 1) acc' → C acc') → J (n + k) acc → compOne g tg tt te τ acc C d) →
    (∀ acc, J (n + ds.length) acc → Q (.own acc)) → J n acc → compRec g tg tt te τ Q ds acc
  | [], n, acc, _, hf, h => hf acc h
  | d :: ds, n, acc, hs, hf, h => by
    refine hs 0 d acc (compRec g tg tt te τ Q ds) rfl (fun acc' z => ?_) h
    exact comp_invA J ds (n + 1) acc' (fun k d acc C e h1 h2 => hs (k + 1) d acc C (by simpa using e) (fun a z => h1 a (by rw [show n + 1 + k + 1 = n + (k + 1) + 1 by omega]; exact z)) (by rw [show n + (k + 1) = n + 1 + k by omega]; exact h2)) (fun a z => hf a (by rw [show n + (d :: ds).length = n + 1 + ds.length by rw [List.length_cons]; omega]; exact z)) z
theorem comp_inv {g : Nat} {tg : DTG} {tt : DTT} {te : DTE} {τ : DSt} {Q : Sl → Prop} (J : Nat → List D → Prop) {ds : List D} (h0 : J 0 [])
    (hs : ∀ k d acc (C : List D → Prop), ds[k]? = some d → (∀ acc', J (k + 1) acc' → C acc') → J k acc → compOne g tg tt te τ acc C d)
    (hf : ∀ acc, J ds.length acc → Q (.own acc)) : compRec g tg tt te τ Q ds [] :=
  comp_invA J ds 0 [] (fun k d acc C e h1 h2 => hs k d acc C e (fun a z => h1 a (by rw [Nat.zero_add]; exact z)) (by rw [Nat.zero_add] at h2; exact h2)) (fun a z => hf a (by rw [Nat.zero_add] at z; exact z)) h0
/-- elements drawn: each one keeps P -/
theorem comp_draw {g : Nat} {tg : DTG} {tt : DTT} {te : DTE} {τ : DSt} {Q : Sl → Prop} {α : Type} (enc : α → D) (P : α → Prop) {n : Nat} {lo : Int} (hn : n < 1000000)
    (hs : ∀ (k : Nat) (acc : List D) (C : List D → Prop), k < n → acc.length < 1000000 → (∀ x, P x → C (acc ++ [enc x])) → compOne g tg tt te τ acc C (.int (lo + k)))
    (hf : ∀ xs : List α, xs.length = n → (∀ x ∈ xs, P x) → Q (.own (xs.map enc))) : compRec g tg tt te τ Q (rangeL lo n) [] := by
  refine comp_inv (fun k acc => ∃ xs : List α, acc = xs.map enc ∧ xs.length = k ∧ ∀ x ∈ xs, P x) ⟨[], rfl, rfl, fun x h => by cases h⟩ (fun k d acc C e h1 h2 => ?_) fun acc ⟨xs, e1, e2, e3⟩ => by rw [rangeL_len] at e2; rw [e1]; exact hf xs e2 e3
  obtain ⟨hk, rfl⟩ := rangeL_at n lo k d e
  obtain ⟨xs, rfl, e2, e3⟩ := h2
  refine hs k _ C hk (by rw [List.length_map]; omega) fun x hx => h1 _ ⟨xs ++ [x], by simp, by simp [e2], fun y hy => ?_⟩
  rcases List.mem_append.mp hy with hy | hy
  · exact e3 y hy
  · simp at hy
    rw [hy]; exact hx
/-- elements worked out one by one: f tells what each gives, if anything -/
theorem comp_map {g : Nat} {tg : DTG} {tt : DTT} {te : DTE} {τ : DSt} {Q : Sl → Prop} {α : Type} (enc : α → D) (f : α → Option D) {xs : List α} (hl : xs.length < 1000000)
    (hs : ∀ x ∈ xs, ∀ (acc : List D) (C : List D → Prop), acc.length < 1000000 → C (acc ++ (f x).toList) → compOne g tg tt te τ acc C (enc x))
    (hf : Q (.own (xs.filterMap f))) : compRec g tg tt te τ Q (xs.map enc) [] := by
  refine comp_inv (fun k acc => acc = (xs.take k).filterMap f) rfl (fun k d acc C e h1 h2 => ?_) fun acc e => by rw [List.length_map, List.take_length] at e; rw [e]; exact hf
  rw [List.getElem?_map] at e
  obtain ⟨x, e1, rfl⟩ := Option.map_eq_some_iff.mp e
  subst h2
  refine hs x (List.mem_of_getElem? e1) _ C (Nat.lt_of_le_of_lt (Nat.le_trans (List.length_filterMap_le _ _) (List.length_take_le _ _)) ?_) (h1 _ ?_)
  · exact Nat.lt_trans (List.getElem?_eq_some_iff.mp e1).1 hl
  · rw [List.take_succ, e1, List.filterMap_append]
    cases h : f x <;> simp [h]
theorem comp_range {g : Nat} {tg : DTG} {tt : DTT} {te : DTE} {τ : DSt} {Q : Sl → Prop} (f : Nat → Option D) {n : Nat} {lo : Int} (hl : n < 1000000)
    (hs : ∀ (k : Nat), k < n → ∀ (acc : List D) (C : List D → Prop), acc.length < 1000000 → C (acc ++ (f k).toList) → compOne g tg tt te τ acc C (.int (lo + k)))
    (hf : Q (.own ((List.range n).filterMap f))) : compRec g tg tt te τ Q (rangeL lo n) [] := by
  refine comp_inv (fun k acc => acc = (List.range k).filterMap f) rfl (fun k d acc C e h1 h2 => ?_) fun acc e => by rw [rangeL_len] at e; rw [e]; exact hf
  obtain ⟨hk, rfl⟩ := rangeL_at n lo k d e
  subst h2
  refine hs k hk _ C (Nat.lt_of_le_of_lt (List.length_filterMap_le _ _) (by rw [List.length_range]; omega)) (h1 _ ?_)
  rw [List.range_succ, List.filterMap_append]
  cases h : f k <;> simp [h]
/-! ### slices -/
theorem cutG_to {α : Type} (xs : List α) (n : Int) (h : 0 ≤ n) : cutG xs none (some n) = xs.take n.toNat := by
  unfold cutG
  rw [HT.sIx_none, show n = (n.toNat : Int) by omega, HT.sIx_nat, List.drop_zero, Nat.sub_zero, Int.toNat_natCast]
  rcases Nat.le_total n.toNat xs.length with e | e
  · rw [Nat.min_eq_left e]
  · rw [Nat.min_eq_right e, List.take_of_length_le (Nat.le_refl _), List.take_of_length_le e]
theorem cutG_from {α : Type} (xs : List α) (n : Int) (h : 0 ≤ n) : cutG xs (some n) none = xs.drop n.toNat := by
  unfold cutG
  rw [HT.sIx_none, show n = (n.toNat : Int) by omega, HT.sIx_nat, Int.toNat_natCast]
  rcases Nat.le_total n.toNat xs.length with e | e
  · rw [Nat.min_eq_left e]
    exact List.take_of_length_le (by rw [List.length_drop]; exact Nat.le_refl _)
  · rw [Nat.min_eq_right e, List.drop_eq_nil_of_le (Nat.le_refl _), List.drop_eq_nil_of_le e]
    exact List.take_nil
theorem atI_at {α : Type} {ds : List α} {i : Int} {x : α} (h : 0 ≤ i) (e : ds[i.toNat]? = some x) : L2.atI ds i = some x := by
  rw [show i = (i.toNat : Int) by omega, atI_k]
  exact e
end DL
namespace DL
open PySem PySem.Spec PyProof.Rows L2
theorem while_inv {c : DTT} {tb : DTS} {E : DEnds} {τ : DSt} (I : Nat → DSt → Prop) (m0 : Nat) (h0 : I m0 τ)
    (hs : ∀ m τ (E' : DEnds), E'.rt = E.rt → E'.rb = E.rb → E'.bk = E.nx → (∀ m' τ', m' < m → I m' τ' → E'.nx τ') → (∀ m' τ', m' < m → I m' τ' → E'.ct τ') → I m τ → c τ fun b => if b = true then tb E' τ else E.nx τ) : dWhile c tb E τ :=
  ⟨I, ⟨m0, h0⟩, fun m τ h => hs m τ { E with nx := fun τ' => ∃ m', m' < m ∧ I m' τ', ct := fun τ' => ∃ m', m' < m ∧ I m' τ', bk := E.nx } rfl rfl rfl (fun m' τ' a b => ⟨m', a, b⟩) (fun m' τ' a b => ⟨m', a, b⟩) h⟩
end DL
/-! DL19: defs with keyword-only defaults. -/
namespace DL
open PySem PySem.Spec PyProof.Rows L2
/-- a def with keyword-only defaults alone, called without them -/
theorem fn_mkK {P : Program} {w : World} {K : PySem.W.Frag} {T : Tab} {mg : Str → Option Value} {base : Heap} {x qual : Str} {params : Arguments} {body : List Stmt} {scope : Scope} {f : Addr} {fd : FuncData} {ps : List Str} {k : Nat} {C : Ctr} {kws : List (Str × V)} {dd : List D}
    (F : FunD K x qual params body scope [] kws f fd) (hm : mg x = some (.ref f)) (n : Nat) (hk : kws ≠ []) (hn : n + kws.length = ps.length) (hdd : isScs dd (kws.map (·.2))) (ok : FnOk P w K mg base CX0 k f fd ps (spC K T C))
    (h : ∀ (D : Addr) (doc pm : Value) (an : Option Addr) (cdv ct : Value) (us ks : List Value), us.length = n → ks.length = kws.length →
      KwChain D ((kws.map (·.1)).zip ks) (bindArgs (PySem.W.fnOf x qual params body scope .none (.ref D) doc pm an cdv ct) ⟨us, []⟩) (ps.zip (us ++ ks))) : Fn P w K T mg base x k dd C := by
  obtain ⟨ds, h1, h2⟩ := F.binds0 n hk hn h
  exact ⟨f, fd, ps, ds, _, hm, F.kp, h2, h1, hdd, ok⟩
end DL
/-! DL20: a, b, c = x, y, z. -/
namespace DL
open PySem PySem.Spec PyProof.Rows L2
@[simp] def dPar3 (i j k : Nat) (ta tb tc : DTE) : DTS := fun E τ => ta τ fun x => tb τ fun y => tc τ fun z => setQ i τ (fun τ1 => setQ j τ1 (fun τ2 => setQ k τ2 E.nx z) y) x
section
variable {K : PySem.W.Frag} {T : Tab} {S : Sit} {τ : DSt} {σ : L2.St} {H H1 : Hp}
/-- a value put into a slot -/
theorem set_slot {i : Nat} {sl : Sl} {v : V} {R : DSt → Prop} (s1 : SR K T S τ σ H1) (r : RepG K T S sl.g H1 sl.d v) (q : setQ i τ R sl) : ∃ τ', SR K T S τ' (σ.set i (some v)) H1 ∧ R τ' := by
  cases sl with
  | v g d => exact ⟨_, s1.setV (Nat.le_of_ble_eq_true q.1) (RepG.up r), q.2⟩
  | own ds => exact ⟨_, s1.setV (g := 2) (d := .lst ds) (by decide) r, q⟩
  | un => exact (show False from q).elim
  | ins c ds => exact (show False from q).elim
end
section
variable {X : Cx} {T : Tab} {ek : EK} {a b c : Expr} {ta tb tc : DTE} {x y z : Str} {i j k : Nat} {pos px py pz pt pt2 : Pos} {kt k2 : Nat}
theorem ds_par3 (hc : X.calm = true) (hN : X.N.Nodup) (hi : X.N[i]? = some x) (hj : X.N[j]? = some y) (hk : X.N[k]? = some z) (hij : i ≠ j) (hik : i ≠ k) (hjk : j ≠ k)
    (hx : X.env.scope.names.lookup x = some .local) (hy : X.env.scope.names.lookup y = some .local) (hz : X.env.scope.names.lookup z = some .local) (ha : PE X a (UpE X.K T ta)) (hb : PE X b (UpE X.K T tb)) (hd : PE X c (UpE X.K T tc))
    (hw : swappedStores [.Tuple [.Name x px, .Name y py, .Name z pz] kt pt] (.Tuple [a, b, c] k2 pt2) X.env = pure (some [x, y, z])) (hs : swapsWithSole [.Tuple [.Name x px, .Name y py, .Name z pz] kt pt] (.Tuple [a, b, c] k2 pt2) pos.line X.env = pure false := by rfl)
    (hs1 : starEach [a, b, c] X.env = (false, eval a X.env) :: starEach [b, c] X.env := by rfl) (hs2 : starEach [b, c] X.env = (false, eval b X.env) :: starEach [c] X.env := by rfl) (hs3 : starEach [c] X.env = (false, eval c X.env) :: starEach [] X.env := by rfl) :
    PS X (.Assign [.Tuple [.Name x px, .Name y py, .Name z pz] kt pt] (.Tuple [a, b, c] k2 pt2) pos) (UpS X.K T ek (dPar3 i j k ta tb tc)) :=
  (ps_par3 hc hN hi hj hk hij hik hjk hx hy hz (pa_cons ha (pa_cons hb (pa_cons hd pa_nil hs3) hs2) hs1) hw hs).of fun E σ H ⟨S, τ, DD, sr, h, o⟩ => ⟨S, τ, _, sr, h, fun H1 v1 s1 a1 r1 q1 => ⟨S, τ, _, sr.aft a1, q1, fun H2 v2 s2 a2 r2 q2 => ⟨S, τ, _, (sr.aft a1).aft a2, q2, fun H3 v3 s3 a3 r3 q3 => ⟨v1, v2, v3, rfl, by
    have t1 := sr.aft a1
    have t2 := t1.aft a2
    have t3 := t2.aft a3
    have g1 := t1.rep (a2.trans a3).kp (r1.g sr)
    have g2 := t2.rep a3.kp (r2.g t1)
    have g3 := r3.g t2
    obtain ⟨τ1, u1, p1⟩ := set_slot t3 g1 q3
    obtain ⟨τ2, u2, p2⟩ := set_slot u1 g2 p1
    obtain ⟨τ3, u3, p3⟩ := set_slot u2 g3 p2
    exact o.nx S.P _ _ H3 u3 p3⟩⟩⟩⟩
end
end DL
/-! DX1: defs that may raise: contracts with a second way out; calls of them as whole statements. -/
namespace DL
open PySem PySem.Spec PyProof.Rows L2
abbrev CtrX := List D → (Sl → Prop) → (Er → Prop) → Prop
abbrev CtrXI := List D → (List D → Prop) → (Er → Prop) → Prop
abbrev DTEx := DSt → (Sl → Prop) → (Er → Prop) → Prop
/-- an expression that may raise -/
def UpEx (K : PySem.W.Frag) (T : Tab) (ek : EK) (t : DTEx) : TE := fun σ H Q => ∃ (S : Sit) (τ : DSt) (QD : Sl → Prop) (QE : Er → Prop), SR K T S τ σ H ∧ t τ QD QE ∧ (∀ H' v sl, Aft K T S H H' → RepSl K T S H H' sl v → QD sl → Q v H') ∧
  ∀ H' er cls d, Aft K T S H H' → ErR K T ek.mg S.B H' er cls d → QE er → ek.E cls d H'
/-- what such a def promises -/
def spX (K : PySem.W.Frag) (T : Tab) (mg : Str → Option Value) (C : CtrX) : Sp := fun vs H Q E => ∃ (B : Option Addr) (L : LX) (M : Addr → Prop) (ds : List D) (QD : Sl → Prop) (QE : Er → Prop), BagOk T B L H ∧ (∀ a, M a → Lv H a) ∧ Reps K T B (fun a => B = some a) H ds vs ∧ C ds QD QE ∧
  (∀ H' v sl, Kp (fun a => B = some a) H H' → BagOk T B L H' → RepR K T B M H H' sl v → QD sl → Q v H') ∧
  ∀ H' er cls d, Kp (fun a => B = some a) H H' → BagOk T B L H' → ErR K T mg B H' er cls d → QE er → E cls d H'
theorem spX_of {K : PySem.W.Frag} {T : Tab} {mg : Str → Option Value} {S : Sit} {τ : DSt} {σ : L2.St} {H : Hp} {C : CtrX} {ds : List D} {vs : List V} {QD : Sl → Prop} {QE : Er → Prop} {Q : VK} {E : XK} {g : Nat} (sr : SR K T S τ σ H) (r : RepsG K T S g H ds vs) (q : C ds QD QE)
    (k : ∀ H' v sl, Aft K T S H H' → RepSl K T S H H' sl v → QD sl → Q v H') (kx : ∀ H' er cls d, Aft K T S H H' → ErR K T mg S.B H' er cls d → QE er → E cls d H') : spX K T mg C vs H Q E :=
  ⟨S.B, S.L, gset S 2, ds, QD, QE, sr.bag, sr.mal, Reps.anti (sr.gsub g) ds vs r, q, fun H' v sl kp bag rr q' => k H' v sl ⟨kp, bag⟩ (RepR.sl sr rr) q', fun H' er cls d kp bag e q' => kx H' er cls d ⟨kp, bag⟩ e q'⟩
section
variable {P : Program} {w : World} {K : PySem.W.Frag} {T : Tab} {mg : Str → Option Value} {base : Heap} {x qual : Str} {params : Arguments} {body : List Stmt} {scope : Scope} {dvs : List V} {kws : List (Str × V)} {f : Addr} {fd : FuncData} {N ps : List Str} {k : Nat}
/-- a def that keeps such a contract -/
theorem fnx_ok (F : FunD K x qual params body scope dvs kws f fd) (S : FnScope N ps scope) (C : CtrX) (t : DTS) (hl : ∀ ds QD QE, C ds QD QE → ds.length = ps.length)
    (hb : ∀ (cdv : Value) (A : Around) (outer : List Env) (s : Shared) (H : Hp) (E : XK), Room k (A.deeper (envOfC qual scope s.heap.objs.size f cdv)) → PSs (cxOf (L2.CX P w) P w K mg base N qual scope f cdv A outer s H E) body (UpS K T ⟨mg, E⟩ t))
    (hp : ∀ ds QD QE, C ds QD QE → t { nx := fun _ => QD (.v 2 .non), rt := QD, er := QE } (startD N ds)) : FnOk P w K mg base (L2.CX P w) (k + 1) f fd ps (spX K T mg C) := by
  refine F.ok S (fun vs H Q E h => ?_) (fun cdv A outer s H vs Q E hr h => ⟨UpS K T ⟨mg, E⟩ t, hb cdv A outer s H E hr, ?_⟩)
  · obtain ⟨B, L, M, ds, QD, QE, _, _, r, q, _⟩ := h
    rw [r.len]; exact hl ds QD QE q
  · obtain ⟨B, L, M, ds, QD, QE, bag, hm, r, q, kk, kx⟩ := h
    have kb : ∀ {H' : Hp}, Kp (fun a => B = some a ∨ none = some a) H H' → Kp (fun a => B = some a) H H' := fun z => z.mono fun _ z => Or.elim z (fun z => z) (fun z => by cases z)
    exact ⟨⟨B, L, none, H, M, fun a => B = some a, []⟩, startD N ds, _, sr_start bag hm r, hp ds QD QE q, ⟨fun P' τ' σ' H' sr q' => kk H' .non (.v 2 .non) (kb sr.kp) sr.bag rfl q', fun _ _ _ _ _ z => z.elim, fun _ _ _ _ _ z => z.elim, fun H' v sl kp bag' rr q' => kk H' v sl (kb kp) bag' rr q', fun _ _ _ _ _ _ _ _ z => z.elim,
      fun H' er cls d kp bag' e q' => kx H' er cls d (kb kp) bag' e q'⟩⟩
/-- the same without the second way out -/
theorem FnOk.calm {sp : Sp} {ps : List Str} (F : FnOk P w K mg base (L2.CX P w) k f fd ps sp) : FnOk P w K mg base CX0 k f fd ps (fun vs H Q _ => sp vs H Q fun _ _ _ => False) := by
  refine ⟨fun vs H Q E h => F.len vs H Q _ h, fun A outer s H args us vs Q E hr e0 hb r h => codeAny_mono (F.run A outer s H args us vs Q _ hr e0 hb r h) fun r s' hq => ?_⟩
  cases r with
  | error e =>
    obtain ⟨_, _, _, _, _, _, _, _, _, _, _, _, z⟩ := hq
    exact z.elim
  | ok fl => cases fl <;> exact hq
theorem spC_X {C : CtrX} {vs : List V} {H : Hp} {Q : VK} {E : XK} (h : spC K T (fun ds Q => C ds Q fun _ => False) vs H Q E) : spX K T mg C vs H Q fun _ _ _ => False := by
  obtain ⟨B, L, M, ds, QD, bag, hm, r, q, kk⟩ := h
  exact ⟨B, L, M, ds, QD, fun _ => False, bag, hm, r, q, kk, fun _ _ _ _ _ _ _ z => z⟩
end
structure FnX (P : Program) (w : World) (K : PySem.W.Frag) (T : Tab) (mg : Str → Option Value) (base : Heap) (x : Str) (k : Nat) (dd : List D) (C : CtrX) : Prop where
  ex : ∃ (f : Addr) (fd : FuncData) (ps : List Str) (ds : List Value) (dvs : List V), mg x = some (.ref f) ∧ PySem.W.keepIn K (.ref f) = true ∧ Binds K fd ps ds ∧ Vals dvs ds ∧ isScs dd dvs ∧ FnOk P w K mg base (L2.CX P w) k f fd ps (spX K T mg C)
/-- a call of it where it raises nothing -/
theorem FnX.calm {P : Program} {w : World} {K : PySem.W.Frag} {T : Tab} {mg : Str → Option Value} {base : Heap} {x : Str} {k : Nat} {dd : List D} {C : CtrX} {C' : Ctr} (F : FnX P w K T mg base x k dd C) (h : ∀ ds Q, C' ds Q → C ds Q fun _ => False) : Fn P w K T mg base x k dd C' := by
  obtain ⟨f, fd, ps, ds, dvs, h1, h2, h3, h4, h5, h6⟩ := F.ex
  refine ⟨f, fd, ps, ds, dvs, h1, h2, h3, h4, h5, (FnOk.calm h6).imp fun vs H Q E z => spC_X (E := E) ?_⟩
  obtain ⟨B, L, M, ds, QD, bag, hm, r, q, kk⟩ := z
  exact ⟨B, L, M, ds, QD, bag, hm, r, h ds QD q, kk⟩
structure MtX (P : Program) (w : World) (K : PySem.W.Frag) (T : Tab) (mg : Str → Option Value) (base : Heap) (c : Nat) (m : Str) (k : Nat) (dd : List D) (C : CtrX) : Prop where
  ex : ∃ (f : Addr) (fd : FuncData) (ps : List Str) (ds : List Value) (dvs : List V), Cls K (T c).1 ∧ Meth K (T c).1 m f ∧ m ∉ (T c).2 ∧ Binds K fd ps ds ∧ Vals dvs ds ∧ isScs dd dvs ∧ FnOk P w K mg base (L2.CX P w) k f fd ps (spX K T mg C)
theorem MtX.calm {P : Program} {w : World} {K : PySem.W.Frag} {T : Tab} {mg : Str → Option Value} {base : Heap} {c : Nat} {m : Str} {k : Nat} {dd : List D} {C : CtrX} {C' : Ctr} (F : MtX P w K T mg base c m k dd C) (h : ∀ ds Q, C' ds Q → C ds Q fun _ => False) : Mt P w K T mg base c m k dd C' := by
  obtain ⟨f, fd, ps, ds, dvs, h1, h2, h3, h4, h5, h6, h7⟩ := F.ex
  refine ⟨f, fd, ps, ds, dvs, h1, h2, h3, h4, h5, h6, (FnOk.calm h7).imp fun vs H Q E z => spC_X (E := E) ?_⟩
  obtain ⟨B, L, M, ds, QD, bag, hm, r, q, kk⟩ := z
  exact ⟨B, L, M, ds, QD, bag, hm, r, h ds QD q, kk⟩
/-! ### calls that may raise -/
@[simp] def dCallX (C : CtrX) (dd : List D) (ta : DTA) : DTEx := fun τ Q R => ta τ fun _ ds => C (ds ++ dd) Q R
@[simp] def dMethX (c : Nat) (C : CtrX) (dd : List D) (to : DTE) (ta : DTA) : DTEx := fun τ Q R => to τ fun o => match o.d with
  | .obj c' fs => c' = c ∧ ta τ fun _ ds => C (.obj c fs :: (ds ++ dd)) Q R
  | _ => False
/-- an expression that raises nothing, as one that may -/
@[simp] def dX (te : DTE) : DTEx := fun τ Q _ => te τ Q
section
variable {X : Cx} {T : Tab} {k : Nat} {f : Addr} {fd : FuncData} {ps : List Str} {C : CtrX} {dd : List D} {E : XK} {x m : Str} {p pos apos : Pos} {e o : Expr} {es : List Expr} {te to : DTE} {t : DTA} {c : Nat}
theorem dx_quiet (h : PE X e (UpE X.K T te)) : PE X e (UpEx X.K T ⟨X.mg, E⟩ (dX te)) := h.of fun σ H Q ⟨S, τ, QD, QE, sr, h, k, kx⟩ => ⟨S, τ, QD, sr, h, k⟩
theorem dx_fn (F : FnX X.prog X.w X.K T X.mg X.base x k dd C) (hr : Room k X.A) (hx : Passes (L2.CX X.prog X.w) X E) (hg : Gl X x) (ha : PA X (e :: es) (UpA X.K T t)) (hdb : (x == ("__debug__" : Str)) = false := by decide) (he : starEach (e :: es) X.env = (false, eval e X.env) :: starEach es X.env := by rfl)
    (hpl : (backTo pos (starEach es X.env)).any (·.1) = false := by rfl) : PE X (.Call (.Name x p) (e :: es) [] pos) (UpEx X.K T ⟨X.mg, E⟩ (dCallX C dd t)) := by
  obtain ⟨f, fd, ps, ds, dvs, h1, h2, h3, h4, h5, h6⟩ := F.ex
  exact (pe_call h6 hr hg h1 h2 h3 h4 hx ha hdb he hpl).of fun σ H Q ⟨S, τ, QD, QE, sr, h, k, kx⟩ => ⟨S, τ, _, sr, h, fun H1 vs g ds a r q =>
    spX_of (sr.aft a) (r.append h5.rep) q (fun H' v sl a2 r2 q2 => k H' v sl (a.trans a2) (r2.back a) q2) fun H' er cls d a2 e2 q2 => kx H' er cls d (a.trans a2) e2 q2⟩
theorem dx_mt {pl : Sem Bool} (F : MtX X.prog X.w X.K T X.mg X.base c m k dd C) (hr : Room k X.A) (hx : Passes (L2.CX X.prog X.w) X E) (he : PE X o (UpE X.K T to)) (ha : PA X (e :: es) (UpA X.K T t))
    (hst : starEach (e :: es) X.env = (false, eval e X.env) :: starEach es X.env := by rfl) (hpl : (backTo pos (starEach es X.env)).any (·.1) = false := by rfl)
    (ht : eval (.Call (.Attribute o m apos) (e :: es) [] pos) X.env = (do
      let ov ← eval o X.env
      standAt apos.atName
      let (f, first) ← holding [ov] (getMethod ov m pl)
      callWith pos f first (backTo pos (starEach (e :: es) X.env)) (backToKw pos (keywordEach [] X.env))) := by rfl) :
    PE X (.Call (.Attribute o m apos) (e :: es) [] pos) (UpEx X.K T ⟨X.mg, E⟩ (dMethX c C dd to t)) := by
  obtain ⟨f, fd, ps, ds, dvs, cl, hm, hmf, h4, h5, h6, h7⟩ := F.ex
  exact (pe_meth he cl hm h7 hr h4 h5 hx ha hst hpl ht).of fun σ H Q ⟨S, τ, QD, QE, sr, h, k, kx⟩ => ⟨S, τ, _, sr, h, fun H1 v sl a r q => by
    have rg := r.g sr
    have s1 := sr.aft a
    cases sd : sl.d with
    | obj c' fs =>
      rw [sd] at q rg
      obtain ⟨rfl, q⟩ := q
      obtain ⟨ad, dx, ws, rfl, e1, e2, rs⟩ := id rg
      refine ⟨ad, dx, _, rfl, e1, zip_none hmf, S, τ, _, s1, q, fun H2 vs g ds a2 r2 q2 => ?_⟩
      have s2 := s1.aft a2
      exact spX_of (g := 0) s2 (ds := .obj c' fs :: (ds ++ dd)) ⟨.ref ad, vs ++ dvs, rfl, RepG.le s2 (Nat.zero_le _) (s1.rep a2.kp rg), (RepsG.le s2 (Nat.zero_le _) r2).append h6.rep⟩ q2
        (fun H' v sl a3 r3 q3 => k H' v sl (a.trans (a2.trans a3)) (r3.back (a.trans a2)) q3) fun H' er cls d a3 e3 q3 => kx H' er cls d (a.trans (a2.trans a3)) e3 q3
    | _ => rw [sd] at q; exact (show False from q).elim⟩
end
/-! ### statements over them -/
@[simp] def dRetX (te : DTEx) : DTS := fun D τ => te τ (fun sl => sto sl = true ∧ D.rt (out sl)) D.er
@[simp] def dSetX (i : Nat) (te : DTEx) : DTS := fun D τ => te τ (setQ i τ D.nx) D.er
@[simp] def dSetOX (i : Nat) (te : DTEx) : DTS := fun D τ => te τ (setOQ i τ D.nx) D.er
@[simp] def dDropX (te : DTEx) : DTS := fun D τ => te τ (fun _ => D.nx τ) D.er
section
variable {X : Cx} {T : Tab} {ek : EK} {e : Expr} {te : DTEx} {pos pos' : Pos} {i : Nat} {x : Str}
theorem ds_retX (he : PE X e (UpEx X.K T ek te)) : PS X (.Return (some e) pos) (UpS X.K T ek (dRetX te)) :=
  (ps_ret he).of fun D σ H ⟨S, τ, DD, sr, h, o⟩ => ⟨S, τ, _, _, sr, h, fun H1 v sl a r ⟨q1, q2⟩ => o.rt H1 v (out sl) (sr.aft a).kp a.bag (r.out sr q1) q2, fun H1 er cls d a e q => o.er H1 er cls d (sr.aft a).kp a.bag e q⟩
theorem ds_setX (hN : X.N.Nodup) (hi : X.N[i]? = some x) (hx : Loc X.env.scope x) (he : PE X e (UpEx X.K T ek te)) (hs : swapsWith e (some (.Name x pos')) pos.line X.env = pure false := by rfl)
    (hf : X.fn x = true ∨ X.env.scope.names.lookup x = some .local := by first | exact .inl rfl | exact .inr rfl | assumption) : PS X (.Assign [.Name x pos'] e pos) (UpS X.K T ek (dSetX i te)) :=
  (ps_set hN hi hx he hs hf).of fun D σ H ⟨S, τ, DD, sr, h, o⟩ => ⟨S, τ, _, _, sr, h, fun H1 v sl a r q => out_set sr a r o q, fun H1 er cls d a e q => o.er H1 er cls d (sr.aft a).kp a.bag e q⟩
theorem ds_setOX (hN : X.N.Nodup) (hi : X.N[i]? = some x) (hx : Loc X.env.scope x) (he : PE X e (UpEx X.K T ek te)) (hs : swapsWith e (some (.Name x pos')) pos.line X.env = pure false := by rfl)
    (hf : X.fn x = true ∨ X.env.scope.names.lookup x = some .local := by first | exact .inl rfl | exact .inr rfl | assumption) : PS X (.Assign [.Name x pos'] e pos) (UpS X.K T ek (dSetOX i te)) :=
  (ps_set hN hi hx he hs hf).of fun D σ H ⟨S, τ, DD, sr, h, o⟩ => ⟨S, τ, _, _, sr, h, fun H1 v sl a r q => out_setO sr a r o q, fun H1 er cls d a e q => o.er H1 er cls d (sr.aft a).kp a.bag e q⟩
theorem ds_exprX (he : PE X e (UpEx X.K T ek te)) (hs : swapsWith e none pos.line X.env = pure false := by rfl) : PS X (.Expr e pos) (UpS X.K T ek (dDropX te)) :=
  (ps_expr he hs).of fun D σ H ⟨S, τ, DD, sr, h, o⟩ => ⟨S, τ, _, _, sr, h, fun H1 v sl a r q => o.nx S.P τ σ H1 (sr.aft a) q, fun H1 er cls d a e q => o.er H1 er cls d (sr.aft a).kp a.bag e q⟩
end
end DL
/-! DX2: own error classes: made with their fields, raised. -/
namespace DL
open PySem PySem.Spec PyProof.Rows L2
/-- what stands behind an __init__ that sets the fields fs (the last first) of a new error at a -/
def spErr (C : Addr) (n : Nat) (fs : List V → List (Str × V)) : Sp := fun vs H Q _ => ∃ (a : Addr) (ws : List V), vs = .ref a :: ws ∧ ws.length = n ∧ H a = some (exo a C none) ∧
  ∀ (dx : Addr) (H' : Hp), H dx = none → dx ≠ a → H' a = some (exo a C (some dx)) → H' dx = some (exd dx (fs ws)) → (∀ b, b ≠ a → b ≠ dx → H' b = H b) → Q .non H'
section
variable {P : Program} {w : World} {K : PySem.W.Frag} {mg : Str → Option Value} {base : Heap} {x qual : Str} {params : Arguments} {scope : Scope} {f : Addr} {fd : FuncData} {N : List Str} {k : Nat} {C : Addr}
theorem upd2 {H : Hp} {a b : Addr} {o u : HO} (h : a ≠ b) : upd (upd H a o) b u a = some o := by rw [upd_ne h, upd_same]
/-- def __init__(self): self.word = w -/
theorem err0_ok {wd sf f0 : Str} {j : Nat} {p1 p2 p3 p4 : Pos} (F : FunD K x qual params [.Assign [.Attribute (.Name sf p1) f0 p2] (.Constant (.str wd) j p3) p4] scope [] [] f fd) (S : FnScope [sf] [sf] scope) (T : OexC K C) (h0 : PySem.W.findIn K (.ref C) f0 = some none) (v0 : Vis scope sf) (d0 : (sf == ("__debug__" : Str)) = false) (d1 : (sf == ("__classdict__" : Str)) = false) :
    FnOk P w K mg base CX0 (k + 1) f fd [sf] (spErr C 0 fun _ => [(f0, .str wd)]) := by
  refine F.ok S (fun vs H Q E h => ?_) (fun cdv A outer s H vs Q E hr h => ?_)
  · obtain ⟨a, ws, rfl, hw, _⟩ := h
    rw [List.length_cons, hw]; rfl
  · obtain ⟨a, ws, rfl, hw, ha, q⟩ := h
    obtain rfl := List.length_eq_zero_iff.mp hw
    refine ⟨_, (PSs.nox (pss_one (ps_ost (pe_var (i := 0) rfl v0 d0 d1) pe_str))), ?_⟩
    exact ⟨.ref a, rfl, a, C, rfl, T, h0, .inl ⟨ha, fun dx hn ne => q dx _ hn ne upd_same (upd2 ne) fun b h1 h2 => by rw [upd_ne h1, upd_ne h2]⟩⟩
/-- def __init__(self, p): self.word = w; self.p = p -/
theorem err1_ok {wd sf f0 f1 v1 : Str} {j : Nat} {p1 p2 p3 p4 p5 p6 p7 p8 : Pos} (F : FunD K x qual params [.Assign [.Attribute (.Name sf p1) f0 p2] (.Constant (.str wd) j p3) p4, .Assign [.Attribute (.Name sf p5) f1 p6] (.Name v1 p7) p8] scope [] [] f fd) (S : FnScope [sf, v1] [sf, v1] scope) (T : OexC K C)
    (h0 : PySem.W.findIn K (.ref C) f0 = some none) (h1 : PySem.W.findIn K (.ref C) f1 = some none) (v0 : Vis scope sf) (v1' : Vis scope v1) (d0 : (sf == ("__debug__" : Str)) = false) (d1 : (sf == ("__classdict__" : Str)) = false) (d2 : (v1 == ("__debug__" : Str)) = false) (d3 : (v1 == ("__classdict__" : Str)) = false) :
    FnOk P w K mg base CX0 (k + 1) f fd [sf, v1] (spErr C 1 fun ws => [(f1, ws.getD 0 .non), (f0, .str wd)]) := by
  refine F.ok S (fun vs H Q E h => ?_) (fun cdv A outer s H vs Q E hr h => ?_)
  · obtain ⟨a, ws, rfl, hw, _⟩ := h
    rw [List.length_cons, hw]; rfl
  · obtain ⟨a, ws, rfl, hw, ha, q⟩ := h
    obtain ⟨y, rfl⟩ := List.length_eq_one_iff.mp hw
    refine ⟨_, (PSs.nox (pss_cons (ps_ost (pe_var (i := 0) rfl v0 d0 d1) pe_str) (pss_one (ps_ost (pe_var (i := 0) rfl v0 d0 d1) (pe_var (i := 1) rfl v1' d2 d3))))), ?_⟩
    refine ⟨.ref a, rfl, a, C, rfl, T, h0, .inl ⟨ha, fun dx hn ne => ?_⟩⟩
    refine ⟨y, rfl, .ref a, rfl, a, C, rfl, T, h1, .inr ⟨dx, _, upd_same, upd2 ne, by simp, ?_⟩⟩
    exact q dx _ hn ne (by rw [upd_ne (Ne.symm ne), upd_same]) upd_same fun b h1 h2 => by rw [upd_ne h2, upd_ne h1, upd_ne h2]
/-- def __init__(self, p, q): self.word = w; self.p = p; self.q = q -/
theorem err2_ok {wd sf f0 f1 f2 v1 v2 : Str} {j : Nat} {p1 p2 p3 p4 p5 p6 p7 p8 p9 p10 p11 p12 : Pos} (F : FunD K x qual params [.Assign [.Attribute (.Name sf p1) f0 p2] (.Constant (.str wd) j p3) p4, .Assign [.Attribute (.Name sf p5) f1 p6] (.Name v1 p7) p8, .Assign [.Attribute (.Name sf p9) f2 p10] (.Name v2 p11) p12] scope [] [] f fd)
    (S : FnScope [sf, v1, v2] [sf, v1, v2] scope) (T : OexC K C) (h0 : PySem.W.findIn K (.ref C) f0 = some none) (h1 : PySem.W.findIn K (.ref C) f1 = some none) (h2 : PySem.W.findIn K (.ref C) f2 = some none) (v0 : Vis scope sf) (v1' : Vis scope v1) (v2' : Vis scope v2)
    (d0 : (sf == ("__debug__" : Str)) = false) (d1 : (sf == ("__classdict__" : Str)) = false) (d2 : (v1 == ("__debug__" : Str)) = false) (d3 : (v1 == ("__classdict__" : Str)) = false) (d4 : (v2 == ("__debug__" : Str)) = false) (d5 : (v2 == ("__classdict__" : Str)) = false) :
    FnOk P w K mg base CX0 (k + 1) f fd [sf, v1, v2] (spErr C 2 fun ws => [(f2, ws.getD 1 .non), (f1, ws.getD 0 .non), (f0, .str wd)]) := by
  refine F.ok S (fun vs H Q E h => ?_) (fun cdv A outer s H vs Q E hr h => ?_)
  · obtain ⟨a, ws, rfl, hw, _⟩ := h
    rw [List.length_cons, hw]; rfl
  · obtain ⟨a, ws, rfl, hw, ha, q⟩ := h
    obtain ⟨y, z, rfl⟩ : ∃ y z, ws = [y, z] := by
      match ws, hw with
      | [y, z], _ => exact ⟨y, z, rfl⟩
    refine ⟨_, (PSs.nox (pss_cons (ps_ost (pe_var (i := 0) rfl v0 d0 d1) pe_str) (pss_cons (ps_ost (pe_var (i := 0) rfl v0 d0 d1) (pe_var (i := 1) rfl v1' d2 d3)) (pss_one (ps_ost (pe_var (i := 0) rfl v0 d0 d1) (pe_var (i := 2) rfl v2' d4 d5)))))), ?_⟩
    refine ⟨.ref a, rfl, a, C, rfl, T, h0, .inl ⟨ha, fun dx hn ne => ?_⟩⟩
    refine ⟨y, rfl, .ref a, rfl, a, C, rfl, T, h1, .inr ⟨dx, _, upd_same, upd2 ne, by simp, ?_⟩⟩
    refine ⟨z, rfl, .ref a, rfl, a, C, rfl, T, h2, .inr ⟨dx, _, by rw [upd_ne (Ne.symm ne), upd_same], upd_same, by simp, ?_⟩⟩
    exact q dx _ hn ne (by rw [upd_ne (Ne.symm ne), upd_ne (Ne.symm ne), upd_same]) upd_same fun b h1 h2 => by rw [upd_ne h2, upd_ne h2, upd_ne h1, upd_ne h2]
end
/-- the fields of such an error, the last first -/
def errV (ps : List Str) (ws : List V) (x : Str) : List (Str × V) := (ps.zip ws).reverse ++ [(("word" : Str), V.str x)]
/-- what a raise of the class asks: its address, its __init__ -/
structure ErC (P : Program) (w : World) (K : PySem.W.Frag) (mg : Str → Option Value) (base : Heap) (x : Str) (k : Nat) (ps : List Str) : Prop where
  ex : ∃ (C fI : Addr) (fd : FuncData) (pp : List Str), mg x = some (.ref C) ∧ OexC K C ∧ PySem.W.findIn K (.ref C) "__init__" = some (some (.ref fI)) ∧ PySem.W.typeIn K (.ref fI) = some (.type "function") ∧ Binds K fd pp [] ∧
    FnOk P w K mg base CX0 k fI fd pp (spErr C ps.length fun ws => errV ps ws x)
/-- the error that such a raise makes -/
def mkEr (x : Str) (ps : List Str) (ds : List D) : Er := ⟨x, (ps.zip ds).reverse ++ [(("word" : Str), D.str x)]⟩
@[simp] def dRaise (x : Str) (ps : List Str) (ta : DTA) : DTS := fun D τ => ta τ fun _ ds => ds.length = ps.length ∧ immAll ds = true ∧ D.er (mkEr x ps ds)
theorem zip_rev {α : Type} : ∀ (ps : List Str) (vs : List α), vs.length = ps.length → ps.reverse.zip vs.reverse = (ps.zip vs).reverse
  | [], _, h => by rw [List.length_eq_zero_iff.mp h]; rfl
  | p :: ps, [], h => by simp at h
  | p :: ps, v :: vs, h => by
    simp at h
    rw [List.reverse_cons, List.reverse_cons, List.zip_append (by simp [h]), zip_rev ps vs h]
    simp
theorem immAll_rev (xs : List D) : immAll xs.reverse = immAll xs := by
  induction xs with
  | nil => rfl
  | cons x xs ih => simp [immAll_app, ih, Bool.and_comm]
theorem Reps.rev {K : PySem.W.Frag} {T : Tab} {B : Option Addr} {M : Addr → Prop} {H : Hp} : ∀ {ds : List D} {vs : List V}, Reps K T B M H ds vs → Reps K T B M H ds.reverse vs.reverse
  | [], _, h => by rw [show _ = [] from h]; rfl
  | d :: ds, _, ⟨v, r, e, h1, h2⟩ => by
    rw [e, List.reverse_cons, List.reverse_cons]
    exact Reps.append (Reps.rev h2) (Reps.one h1)
theorem zip_fst {α : Type} : ∀ (ps : List Str) (xs : List α), xs.length = ps.length → (ps.zip xs).map (·.1) = ps
  | [], _, _ => rfl
  | p :: ps, x :: xs, h => by simp at h; simp [zip_fst ps xs h]
  | p :: ps, [], h => by simp at h
theorem zip_snd {α : Type} : ∀ (ps : List Str) (xs : List α), xs.length = ps.length → (ps.zip xs).map (·.2) = xs
  | [], [], _ => rfl
  | [], x :: xs, h => by simp at h
  | p :: ps, x :: xs, h => by simp at h; simp [zip_snd ps xs h]
  | p :: ps, [], h => by simp at h
section
variable {X : Cx} {T : Tab} {E : XK} {x : Str} {k : Nat} {ps : List Str} {e : Expr} {es : List Expr} {t : DTA} {p p2 pos : Pos}
theorem er_rep {K : PySem.W.Frag} {mg : Str → Option Value} {B : Option Addr} {H : Hp} {C dx : Addr} {ds : List D} {vs : List V} (hm : mg x = some (.ref C)) (hl : ds.length = ps.length) (hi : immAll ds = true) (r : Reps K T B (fun _ => True) H ds vs) (hd : H dx = some (.xd (errV ps vs x))) : ErR K T mg B H (mkEr x ps ds) (.ref C) (some dx) := by
  have hv : vs.length = ps.length := by rw [r.len, hl]
  have e1 : ((mkEr x ps ds).fs.map (·.1)) = ps.reverse ++ [("word" : Str)] := by simp [mkEr, List.map_reverse, zip_fst ps ds hl]
  have e2 : ((mkEr x ps ds).fs.map (·.2)) = ds.reverse ++ [.str x] := by simp [mkEr, List.map_reverse, zip_snd ps ds hl]
  refine ⟨C, dx, vs.reverse ++ [.str x], hm, rfl, rfl, ?_, ?_, ?_⟩
  · rw [hd, e1]
    unfold errV
    congr 2
    rw [List.zip_append (by simp [hv])]
    congr 1
    exact (zip_rev ps vs hv).symm
  · rw [e2, immAll_app, immAll_rev, hi]; rfl
  · rw [e2]
    exact (Reps.rev r).append (Reps.one rfl)
theorem raise_core {S : Sit} {τ : DSt} {σ : L2.St} {H1 : Hp} {ek : EK} {DD : DEnds} {DE : Ends} {vs : List V} {g : Nat} {ds : List D} {C a : Addr} (sr : SR X.K T S τ σ H1) (r : RepsG X.K T S g H1 ds vs) (hl : ds.length = ps.length) (hi : immAll ds = true) (o : Out X.K T ek S DD DE) (hm : ek.mg x = some (.ref C)) (q : DD.er (mkEr x ps ds)) (ha : H1 a = none)
    : spErr C ps.length (fun ws => errV ps ws x) (.ref a :: vs) (upd H1 a (exo a C none)) (fun v H2 => v = .non ∧ ∃ (d : Addr) (fs : List (Str × V)), H2 a = some (exo a C (some d)) ∧ H2 d = some (exd d fs) ∧ H1 d = none ∧ ek.E (.ref C) (some d) (upd (del H2 a) d (.xd fs))) (fun _ _ _ => False) := by
  refine ⟨a, vs, rfl, by rw [r.len, hl], upd_same, fun dx H' hn ne e1 e2 e3 => ⟨rfl, dx, _, e1, e2, by rwa [upd_ne ne] at hn, ?_⟩⟩
  have hn1 : H1 dx = none := by rwa [upd_ne ne] at hn
  have eH : upd (del H' a) dx (.xd (errV ps vs x)) = upd H1 dx (.xd (errV ps vs x)) := by
    funext b
    by_cases h1 : b = dx
    · rw [h1, upd_same, upd_same]
    · rw [upd_ne h1, upd_ne h1]
      by_cases h2 : b = a
      · rw [h2, del_same, ha]
      · rw [del_ne h2, e3 b h2 h1, upd_ne h2]
  rw [eH]
  have a2 := sr.laid (o := .xd (errV ps vs x)) hn1
  refine o.er _ _ _ _ (sr.aft a2).kp a2.bag (er_rep hm hl hi ?_ upd_same) q
  exact Reps.imm ds vs hi (sr.reps a2.kp r)
/-- C(), C's own __init__ keeping sp -/
theorem pmk_none {CX : CXT} {C fI : Addr} {fd : FuncData} {pp : List Str} {sp : Sp} (TC : OexC X.K C) (fi : PySem.W.findIn X.K (.ref C) "__init__" = some (some (.ref fI))) (ti : PySem.W.typeIn X.K (.ref fI) = some (.type "function"))
    (G : FnOk X.prog X.w X.K X.mg X.base CX k fI fd pp sp) (hr : Room (k + 1) X.A) (hb : Binds X.K fd pp []) (hx : Passes CX X (fun _ _ _ => False)) (hg : Gl X x) (hm : X.mg x = some (.ref C)) (hdb : (x == ("__debug__" : Str)) = false := by decide) :
    L2.PMk X (.Call (.Name x p) [] [] pos) (tMkO C sp [] tNil) := by
  intro pins s σ H Q I h
  obtain ⟨nm, qn, NN, bs, bm, sn, sub, ab, col, dd, k0, k1, k2, k3, k5, clsC, bmOk⟩ := TC.cls
  refine wpAny_Call_Name_kw (ld_glob I hg hm ?_ hdb)
  refine PySem.W.callWith_K0 I.kIn TC.kC ?_
  obtain ⟨hp, gg, dr, tk, os⟩ := s
  have fresh : hp.objs.size ≤ hp.objs.size + 1 := by omega
  have nH : H (hp.objs.size + 1) = none := I.hok.fresh fresh
  have q := h.2 (hp.objs.size + 1) nH
  let hp2 : Heap := (hp.push (PySem.W.kdv_tup [])).push (PySem.HandSPX.excO C hp.objs.size)
  have keeps : ∀ b o, hp.get? b = some o → hp2.get? b = some o := fun b o e => Heap.get?_push_of_some _ (Heap.get?_push_of_some _ e)
  have there : hp2.get? (hp.objs.size + 1) = some (PySem.HandSPX.excO C hp.objs.size) := by
    show ((hp.push (PySem.W.kdv_tup [])).push (PySem.HandSPX.excO C hp.objs.size)).get? (hp.objs.size + 1) = _
    heap_get
  have J : Inv X pins σ (upd H (hp.objs.size + 1) (exo (hp.objs.size + 1) C none)) ⟨hp2, gg, dr, tk, os⟩ := I.laid (t' := tk) keeps fresh (exo_ok there)
  have rel : Vals [V.ref (hp.objs.size + 1)] [Value.ref (hp.objs.size + 1)] := .cons rfl .nil
  have len1 : [Value.ref (hp.objs.size + 1)].length = pp.length := by
    have := G.len _ _ _ _ q
    simpa using this
  refine wpAny_call (PySem.HandSPX.call_own PySem.F.excBase_ValueError (fun Y => PySem.HandSPX.refsVE_contains Y bm bmOk) (I.kIn _ _ clsC) (PySem.W.looks_findIn I.kIn fi) (fun self => PySem.W.bind_fn I.kIn self ti) (rest := []) (by simp)
    (codeAny_mono (G.run _ X.stack _ _ ⟨[Value.ref (hp.objs.size + 1)], []⟩ [Value.ref (hp.objs.size + 1)] _ _ (fun _ _ _ => False) (hr.make C [] []) (J.env0.make C [] []) (hb _ [Value.ref (hp.objs.size + 1)] J.kIn (by simpa using len1)) rel q) fun r s' hq => ?_))
  cases r with
  | error er => exact hx pins σ _ _ er s' J hq
  | ok fl =>
    cases fl with
    | ret u =>
      obtain ⟨v, H2, os2, bare2, un2, hok2, rv, ev, d, fs, ea, ed, hd1, q2⟩ := hq
      subst ev
      obtain ⟨h2, g2, d2, t2, os'⟩ := s'
      exact ⟨rv, mk_end (raises_own TC.exC TC.tyC) I fresh keeps un2 hok2 os2 bare2 ea ed hd1 q2⟩
    | next => exact hq.elim
    | brk => exact hq.elim
    | cont => exact hq.elim
/-- raise C(..) -/
theorem ds_raise (F : ErC X.prog X.w X.K X.mg X.base x k ps) (hc : X.calm = true) (tk : L2.Takes X fun cls d _ H => E cls d H) (hr : Room (k + 1) X.A) (hg : Gl X x) (ha : PA X (e :: es) (UpA X.K T t)) (hdb : (x == ("__debug__" : Str)) = false := by decide)
    (he : starEach (e :: es) X.env = (false, eval e X.env) :: starEach es X.env := by rfl) (hpl : (backTo pos (starEach es X.env)).any (·.1) = false := by rfl) (hps : ps.length ≤ 1000 := by decide) : PS X (.Raise (some (.Call (.Name x p) (e :: es) [] pos)) none p2) (UpS X.K T ⟨X.mg, E⟩ (dRaise x ps t)) := by
  obtain ⟨C, fI, fd, pp, hm, T1, h2, h3, h4, h5⟩ := F.ex
  refine (L2.ps_raise hc tk (pmk_oex T1 h2 h3 h5 hr h4 .nil (fun _ _ _ _ _ _ _ z => z.elim) hg hm ha hdb he hpl)).of fun D σ H ⟨S, τ, DD, sr, h, o⟩ => ?_
  refine ⟨S, τ, _, sr, h, fun H1 vs g ds a r ⟨q1, q2, q3⟩ => ⟨?_, fun y hy => ?_⟩⟩
  · rw [r.len, q1]; exact hps
  · rw [List.append_nil]
    exact raise_core (sr.aft a) r q1 q2 o hm q3 hy
theorem ds_raise0 (F : ErC X.prog X.w X.K X.mg X.base x k []) (hc : X.calm = true) (tk : L2.Takes X fun cls d _ H => E cls d H) (hr : Room (k + 1) X.A) (hg : Gl X x) (hdb : (x == ("__debug__" : Str)) = false := by decide) :
    PS X (.Raise (some (.Call (.Name x p) [] [] pos)) none p2) (UpS X.K T ⟨X.mg, E⟩ (dRaise x [] aNil)) := by
  obtain ⟨C, fI, fd, pp, hm, T1, h2, h3, h4, h5⟩ := F.ex
  refine (L2.ps_raise hc tk (pmk_none T1 h2 h3 h5 hr h4 (fun _ _ _ _ _ _ _ z => z.elim) hg hm hdb)).of fun D σ H ⟨S, τ, DD, sr, h, o⟩ => ?_
  exact ⟨Nat.zero_le _, fun y hy => raise_core (g := 2) (ds := []) sr rfl rfl rfl o hm h.2.2 hy⟩
end
end DL
/-! LT1: a try with several clauses, each with a name for the error; defs called in a suite. -/
namespace LT
open PySem PySem.Spec PyProof.Rows L2
abbrev SuiteT := Addr → Value → Option Addr → TS
/-- clauses, each 'except x as n' -/
inductive Cls_ (X : Cx) (n : Str) : List ExceptHandler → List (Value × SuiteT) → Prop
  | none : Cls_ X n [] []
  | more {x : Str} {c : Value} {tc : SuiteT} {st : Stmt} {sts : List Stmt} {p1 p2 : Pos} {hs : List ExceptHandler} {cs : List (Value × SuiteT)}
      (nc : Names X x c)
      (su : ∀ (u : Addr) (ou : Obj) (cl : Value) (dx : Option Addr) (ps : List (Addr × Obj)), Zc cl dx ou → (∃ fs, ou.data = .fields fs) → PSs (X.suite u ((u, ou) :: ps)) (st :: sts) (tc u cl dx))
      (more : Cls_ X n hs cs) : Cls_ X n (.ExceptHandler (some (.Name x p1)) (some n) (st :: sts) p2 :: hs) ((c, tc) :: cs)
/-- the ends of a suite: the name goes -/
def offE (i : Nat) (D : Ends) : Ends := { nx := fun τ G => D.nx (τ.set i none) G, bk := fun τ G => D.bk (τ.set i none) G, ct := fun τ G => D.ct (τ.set i none) G, rt := D.rt }
/-- what the clauses wish of an error -/
def wishes (K : PySem.W.Frag) (i : Nat) (Wo : WX) (D : Ends) : List (Value × SuiteT) → WX
  | [] => Wo
  | (c, tc) :: cs => fun cl dx τ G => ∃ yes : Bool, PySem.W.exmOne K cl c = some yes ∧ (yes = true → ∀ u, G u = none → tc u cl dx (offE i D) (τ.set i (some (.ref u))) G) ∧ (yes = false → wishes K i Wo D cs cl dx τ G)
section
variable {X : Cx} {n : Str} {i : Nat} {body : List Stmt} {h1 : ExceptHandler} {hs : List ExceptHandler} {cs : List (Value × SuiteT)} {pos : Pos} {tb : WX → TS} {Wo : WX}
theorem ps_tryN (eS : X.stack = X.env :: X.outer) (eF : X.env.frame = some X.env.locals) (nd : X.N.Nodup) (ni : X.N[i]? = some n) (nl : X.env.kindOf n = some .local) (tk : Takes X Wo)
    (hb : ∀ (W : WX) (pn : List (Addr × Obj)) (xe : Value → Shared → Prop), Takes (X.tr pn xe) W → PassesOwn (model X.prog X.w) X.A X.env xe → PSs (X.tr pn xe) body (tb W))
    (hc : Cls_ X n (h1 :: hs) cs) : PS X (.Try body (h1 :: hs) [] [] pos) (fun D τ G => tb (wishes X.K i Wo D cs) D τ G) := by
  constructor
  intro pins s σ H D I h
  have okX := I.ok
  have frX : X.A.frames = some (X.env :: X.outer) := by rw [okX.frames, eS]
  have nloc : Loc X.env.scope n := Or.inl nl
  apply wpAny_Try_except
  let xe1 : Value → Shared → Prop := fun e sa => wpAny (model X.prog X.w) X.A (noteFrame e X.env) (fun _ sb => wpAny (model X.prog X.w) X.A (setFlight e none) (fun _ sc => wpAny (model X.prog X.w) X.A (handleBy e X.env (h1 :: hs)) (SP X pins D) X.xe sc) X.xe sb) X.xe sa
  have takes : Takes (X.tr (X.pn ++ pins) xe1) (wishes X.K i Wo D cs) := by
    rintro _ s1 ⟨u, B, s0, pins1, σ1, H1, cl, dx, rfl, J1, keepB, upS, skyS, nu, osS, bareS, w⟩
    have J0 : Inv X pins σ1 H1 s0 := J1.ofTry okX
    have sky1 : Sky B (X.env :: X.outer) u (Zc cl dx) X.env.locals s1.heap := by rw [← eS]; exact skyS
    show wpAny (model X.prog X.w) X.A (noteFrame (.ref u) X.env) _ _ s1
    refine Sky.land Zc.steady frX eF sky1 (fun hp fly up1 => ?_)
    have J2 : Inv X pins σ1 H1 { s1 with heap := hp } := J0.landed keepB fly.1 (upS.trans up1) osS bareS
    obtain ⟨ou, fs, gu, zu, du⟩ := fly.there
    have offFr : u ∉ frs (X.env :: X.outer) := by
      intro m
      obtain ⟨_, od, ed, notF⟩ := fly.2.2.1.mem m
      have : od = ou := by rw [gu] at ed; exact (Option.some.inj ed).symm
      subst this
      exact notF _ du
    have n1 : u ≠ X.env.locals := by
      intro z
      refine offFr (List.mem_filterMap.mpr ⟨X.env, List.mem_cons_self, ?_⟩)
      rw [eF, z]
    have n2 : u ∉ X.fs := by
      intro m
      obtain ⟨en, me, qe⟩ := List.mem_filterMap.mp m
      exact offFr (List.mem_filterMap.mpr ⟨en, List.mem_cons_of_mem _ me, qe⟩)
    have J3 := J2.suite gu du nu n1 n2
    -- clause by clause
    have each : ∀ {hs' : List ExceptHandler} {cs' : List (Value × SuiteT)}, Cls_ X n hs' cs' → wishes X.K i Wo D cs' cl dx σ1 H1 → wpAny (model X.prog X.w) X.A (handleBy (.ref u) X.env hs') (SP X pins D) X.xe { s1 with heap := hp } := by
      intro hs' cs' k
      induction k with
      | none =>
        intro w
        refine wpAny_handleBy_nil ?_
        obtain ⟨f1, f2, f3, ob, vs, TT, oTT, tts, g1, g2, g3, g4, g5⟩ := id fly
        unfold PySem.passOn
        refine wpAny_bind (wpAny_field g1 g3 g4 ?_)
        rw [if_neg (by simp : ¬ ((Value.ref TT == Value.none) = true))]
        have on : wpAny (model X.prog X.w) X.A (setFlight (.ref u) X.env.frame) (fun _ sd => wpAny (model X.prog X.w) X.A (throw (.ref u) : Sem Flow) (SP X pins D) X.xe sd) X.xe { s1 with heap := hp } := by
          rw [eF]
          refine HandSPX.setFlight_upZ fly (fun hq held up2 => wpAny_throw (tk _ _ ?_))
          refine ⟨u, B, s0, pins, σ1, H1, cl, dx, rfl, J0, keepB, (upS.trans up1).trans up2, ?_, nu, osS, bareS, w⟩
          rw [eS]
          exact Or.inr (Or.inr held)
        first
          | exact wpAny_bind (wpAny_pure (wpAny_bind on))
          | exact wpAny_bind on
      | @more x c tc st sts p1 p2 hs2 cs2 nc su mo ih =>
        intro w
        obtain ⟨yes, e1, wy, wn⟩ := w
        refine wpAny_handleBy_cons (codeAny_handlers_test ?_) (by intro z; cases z)
        have LT : PySem.W.Looks (model X.prog X.w) hp (typeOf (.ref u)) cl := fun A Q E sa ka qa => wpAny_typeOf_ref (ka _ _ gu) (by rw [zu.1]; exact qa)
        have LM := PySem.W.exm_one (M := model X.prog X.w) J2.kIn LT e1
        have named : ∀ {Q : Value → Shared → Prop} {E : Value → Shared → Prop}, Q c { s1 with heap := hp } → wpAny (model X.prog X.w) (X.A.mark (some (.ref u))) (eval (.Name x p1) X.env) Q E { s1 with heap := hp } := by
          intro Q E q
          obtain ⟨gx, dbx, bx | ⟨bx, vx, nx⟩⟩ := nc
          · exact ld_glob (X := X.suite u ((u, ou) :: (X.pn ++ pins))) J3 gx bx q dbx
          · exact ld_blt (X := X.suite u ((u, ou) :: (X.pn ++ pins))) J3 gx bx vx q nx dbx
        refine named (LM.here ?_)
        cases yes with
        | false =>
          show wpAny _ X.A (handleBy (.ref u) X.env hs2) _ _ _
          exact ih (wn rfl)
        | true =>
          refine codeAny_handlers_suite_as ?_
          refine HandSPX.lands_againZ fly (fun hq fly2 up2 => ?_)
          have J4 : Inv X pins σ1 H1 { s1 with heap := hq } := J0.landed keepB fly2.1 ((upS.trans up1).trans up2) osS bareS
          obtain ⟨ou2, fs2, gu2, zu2, du2⟩ := fly2.there
          have J5 := J4.suite gu2 du2 nu n1 n2
          refine store_ok (X := X.suite u ((u, ou2) :: (X.pn ++ pins))) (v := .ref u) J5 nd ni nloc rfl (fun s5 J6 => ?_) (Or.inr nl)
          refine wpAny_mono ((su u ou2 cl dx (X.pn ++ pins) zu2 ⟨_, du2⟩).run [] s5 _ H1 _ J6 (wy rfl u nu)) (fun fl s6 out => ?_) (fun _ _ z => z.elim)
          have over : ∀ {σ6 : L2.St} {H6 : Hp} {Q : Shared → Prop}, Inv (X.suite u ((u, ou2) :: (X.pn ++ pins))) [] σ6 H6 s6 → (∀ s7, Inv X pins (σ6.set i none) H6 s7 → Q s7) → wpAny (model X.prog X.w) X.A (do bindName X.env n .none; unbindBehindTheSuite X.env n p2) (fun _ s7 => Q s7) X.xe s6 :=
            fun {σ6 H6 Q} J q => gone_ok (J.unsuite okX) nd ni nl q
          cases fl with
          | ret r =>
            obtain ⟨v6, σ6, H6, J7, r6, q6⟩ := out
            exact over J7 (fun s7 J8 => ⟨v6, _, H6, J8, r6, q6⟩)
          | next =>
            obtain ⟨σ6, H6, J7, q6⟩ := out
            exact over J7 (fun s7 J8 => ⟨_, H6, J8, q6⟩)
          | brk =>
            obtain ⟨σ6, H6, J7, q6⟩ := out
            exact over J7 (fun s7 J8 => ⟨_, H6, J8, q6⟩)
          | cont =>
            obtain ⟨σ6, H6, J7, q6⟩ := out
            exact over J7 (fun s7 J8 => ⟨_, H6, J8, q6⟩)
    exact each hc w
  refine wpAny_mono ((hb (wishes X.K i Wo D cs) (X.pn ++ pins) xe1 takes PassesOwn.looking).run [] s σ H D (I.toTry _) h) (fun fl s1 out => ?_) (fun e s1 he => he)
  cases fl with
  | next =>
    obtain ⟨σ1, H1, J1, q⟩ := out
    exact wpAny_execs_nil ⟨σ1, H1, J1.ofTry okX, q⟩
  | ret r =>
    obtain ⟨v, σ1, H1, J1, rv, q⟩ := out
    exact ⟨v, σ1, H1, J1.ofTry okX, rv, q⟩
  | brk =>
    obtain ⟨σ1, H1, J1, q⟩ := out
    exact ⟨σ1, H1, J1.ofTry okX, q⟩
  | cont =>
    obtain ⟨σ1, H1, J1, q⟩ := out
    exact ⟨σ1, H1, J1.ofTry okX, q⟩
end
end LT
/-! LT2: defs called while an error is handled (they raise nothing); a handled error's fields. -/
namespace LT
open PySem PySem.Spec PyProof.Rows L2 HotX L2H
/-- what a def promises that is called in a suite; q: the handled error, its object -/
structure FnP (P : Program) (w : World) (K : PySem.W.Frag) (mg : Str → Option Value) (base : Heap) (k : Nat) (f : Addr) (fd : FuncData) (ps : List Str) (sp : Addr × Obj → Sp) : Prop where
  len : ∀ q vs H Q E, sp q vs H Q E → vs.length = ps.length
  run : ∀ (A : Around) (outer : List Env) (s : Shared) (H : Hp) (args : Args) (us : List Value) (vs : List V) (Q : VK) (E : XK) (q : Addr × Obj), RoomH k A → PinOk outer H s q → Env0 P w K mg base A outer s H → BindsTo s fd args (ps.zip us) → Vals vs us → sp q vs H Q E →
    codeAny (model P w) A (.call (.ref f) args) (CR C8.CX0 outer P w H s Q E) s
theorem fnP_of {P : Program} {w : World} {K : PySem.W.Frag} {mg : Str → Option Value} {base : Heap} {k : Nat} {f : Addr} {x qual : Str} {params : Arguments} {body : List Stmt} {scope : Scope} {fd : FuncData} {N ps : List Str} {sp : Addr × Obj → Sp}
    (F : FunD K x qual params body scope [] [] f fd) (S : FnScope N ps scope) (len : ∀ q vs H Q E, sp q vs H Q E → vs.length = ps.length)
    (hb : ∀ (cdv : Value) (A : Around) (outer : List Env) (s : Shared) (H : Hp) (vs : List V) (Q : VK) (E : XK) (q : Addr × Obj), RoomH k (A.deeper (envOfC qual scope s.heap.objs.size f cdv)) → sp q vs H Q E →
      ∃ t, PSs (cxH C8.CX0 P w K mg base N qual scope f cdv A outer s H E q) body t ∧ t { nx := fun _ H' => Q .non H', rt := Q } (L2.start N vs) H) : FnP P w K mg base (k + 1) f fd ps sp := by
  refine ⟨len, ?_⟩
  intro A outer s H args us vs Q E q hr pin e0 bind rel h
  obtain ⟨oc, od, dV, kV, doc, pm, an, cdv, ct, osl, rfl, lk, code, _, _⟩ := F.ex
  have ln := len q vs H Q E h
  have inS : K.In s.heap := e0.mod.kin.keeps (fun b o e => (e0.bs b o e).1)
  have noL : s.heap.NoLimit := e0.mod.nolimit.keeps (fun b o e => (e0.bs b o e).1)
  have kinds : ∀ y ∈ ps.zip us, scope.names.lookup y.1 = some .local ∨ (scope.names.lookup y.1 = some .cell ∧ ((cellsFrom (s.heap.objs.size + 1) scope.names []).lookup y.1).isSome = true) := by
    rintro ⟨n, v⟩ hy
    rcases S.par n (List.of_mem_zip hy).1 with z | z
    · exact Or.inl z
    · exact Or.inr ⟨z, PySem.W.cellsFrom_some _ _ _ (Or.inl z)⟩
  refine codeAny_call_function hr.depth (inS _ _ lk) rfl S.co S.gen rfl (PySem.W.codeRec_of inS code) (bind _ _ _ _ ?_)
  refine wpAny_newFunctionEnv_cells S.kind kinds (fun env he s1 inCall => ?_)
  subst he
  refine ⟨noL.keeps inCall.toInCall.keep, codeAny_func ?_⟩
  obtain ⟨t, dt, ht⟩ := hb cdv A outer s H vs Q E q (hr.deeper _) h
  have J : Inv (cxH C8.CX0 P w K mg base N qual scope f cdv A outer s H E q) [] (L2.start N vs) H s1 := inv_startH S pin e0 ln rel inCall
  refine wpAny_mono (dt.run [] s1 (L2.start N vs) H _ J ht) (fun fl s2 out => ?_) (fun e s2 out => out)
  have done : ∀ {σ' : L2.St} {H' : Hp} {v : V} {u : Value}, Inv (cxH C8.CX0 P w K mg base N qual scope f cdv A outer s H E q) [] σ' H' s2 → RelV v u → Q v H' → CE outer P w H s Q u s2 :=
    fun {σ' H' v u} J2 rv qv => ⟨v, H', J2.os, J2.bare, J2.base, J2.hok, rv, qv⟩
  cases fl with
  | next =>
    obtain ⟨σ', H', J2, qv⟩ := out
    exact done (u := Value.none) (v := V.non) J2 rfl qv
  | ret u =>
    obtain ⟨v, σ', H', J2, rv, qv⟩ := out
    exact done J2 rv qv
  | brk => exact out.choose_spec.choose_spec.2.elim
  | cont => exact out.choose_spec.choose_spec.2.elim
section
variable {X : Cx} {k : Nat} {f : Addr} {fd : FuncData} {ps : List Str} {sp : Addr × Obj → Sp} {x : Str} {p pos : Pos} {e : Expr} {es : List Expr} {t : TA} {q : Addr × Obj}
/-- f(..) in a suite -/
theorem pe_callP (F : FnP X.prog X.w X.K X.mg X.base k f fd ps sp) (hr : RoomH k X.A) (hq : q ∈ X.pn) (hg : Gl X x) (hm : X.mg x = some (.ref f)) (hk : PySem.W.keepIn X.K (.ref f) = true) (hb : Binds X.K fd ps [])
    (ha : PA X (e :: es) t) (hdb : (x == ("__debug__" : Str)) = false := by decide) (he : starEach (e :: es) X.env = (false, eval e X.env) :: starEach es X.env := by rfl) (hpl : (backTo pos (starEach es X.env)).any (·.1) = false := by rfl) :
    PE X (.Call (.Name x p) (e :: es) [] pos) (fun σ H Q => t σ H fun vs H1 => sp q vs H1 Q fun _ _ _ => True) := by
  constructor
  intro pins s σ H Q I h
  refine wpAny_Call_Name_kw (ld_glob I hg hm ?_ hdb)
  refine PySem.W.callWith_K (h₀ := X.base) I.ok.mod.kin hk (thn (ha.run pos pins s σ H _ I h) (fun us s1 ⟨vs, H1, J, rel, hsp⟩ => ⟨J.kIn, ?_⟩)) he hpl
  have ln : us.length = ps.length := rel.length.symm.trans (F.len _ _ _ _ _ hsp)
  have bd := hb s1 us J.kIn (by rw [List.append_nil]; exact ln)
  rw [List.append_nil] at bd
  have pinX := J.pin q (List.mem_append_left _ hq)
  have pin : PinOk X.stack H1 s1 q := ⟨pinX.1, pinX.2.1, fun hm => (List.mem_cons.mp (J.stkSub q.1 hm)).elim pinX.2.2.1 pinX.2.2.2.1, pinX.2.2.2.2⟩
  refine wpAny_call (codeAny_mono (F.run X.A X.stack s1 H1 ⟨us, []⟩ us vs Q _ q hr pin J.env0 bd rel hsp) (fun r s2 out => ?_))
  cases r with
  | error er => exact (show False from out).elim
  | ok fl =>
    cases fl with
    | ret u => exact J.after out
    | next => exact (show False from out).elim
    | brk => exact (show False from out).elim
    | cont => exact (show False from out).elim
/-- e.n of a handled error -/
theorem pe_field {C : Addr} {n : Str} {te : TE} (TX : XfC X.K C) (none_ : PySem.W.findIn X.K (.ref C) n = some none) (hq : q ∈ X.pn) {dx : Addr} (hz : Zc (.ref C) (some dx) q.2) (hf : ∃ fs, q.2.data = .fields fs) (he : PE X e te) (hb : attributeBase e n X.env (eval e X.env) = eval e X.env := by rfl) :
    PE X (.Attribute e n pos) (fun σ H Q => te σ H fun y H1 => y = .ref q.1 ∧ ∃ (fs : List (Str × V)) (v : V), H1 dx = some (.xd fs) ∧ fs.lookup n = some v ∧ Q v H1) := by
  constructor
  intro pins s σ H Q I h
  refine attr_of hb (thn (he.run pins s σ H _ I h) (fun u s1 out => ?_))
  obtain ⟨y, H1, J, rel, ey, fs, v, hd, hl, hq2⟩ := out
  subst ey
  have eu : u = Value.ref q.1 := rel
  subst eu
  have pinX := J.pin q (List.mem_append_left _ hq)
  obtain ⟨vs, ed⟩ := hf
  obtain ⟨mA, ns, lr⟩ : ObjOk X.prog X.w H1 s1.heap dx (.xd fs) := J.hok dx _ hd
  obtain ⟨od, o1, o2⟩ := lookIn_ns ns
  obtain ⟨uv, hu, ru⟩ := RelO.some_of (v := v) (o := mA n) (by rw [← hl]; exact lr n)
  have inst : PySem.W.InstAt s1.heap q.1 q.2 C (some od) := ⟨pinX.1, hz.1, (by unfold PySem.W.notCls; rw [ed] <;> rfl), (by rw [hz.2]; exact o1)⟩
  exact HandSPX.exc_get J.kIn inst TX.ga TX.gg TX.exC (PySem.W.findObj_own TX.hdC none_ rfl (by rw [o2, hu])) (handed_of ru) ⟨v, H1, J.tok _, ru, hq2⟩
end
end LT
/-! DX3: the fields of handled errors; what a law is told of them. Printed by mkDX3.py. -/
namespace DL
open PySem PySem.Spec PyProof.Rows L2
/-- an error that a raise of the program has made -/
def okEr (er : Er) : Prop := ∃ ps ds, (er.c, ps) ∈ errTab ∧ ds.length = ps.length ∧ immAll ds = true ∧ er = mkEr er.c ps ds
/-- the field that is told -/
def fieldD (er : Er) : D := match er.fs with
  | [(_, b), (_, a), _] => .tup [a, b]
  | [(_, a), _] => a
  | _ => .non
@[simp] theorem fieldD_0 (x : Str) : fieldD (mkEr x [] []) = .non := rfl
@[simp] theorem fieldD_1 (x p : Str) (d : D) : fieldD (mkEr x [p] [d]) = d := rfl
@[simp] theorem fieldD_2 (x p q : Str) (a b : D) : fieldD (mkEr x [p, q] [a, b]) = .tup [a, b] := rfl
@[simp] theorem mkEr_c (x : Str) (ps : List Str) (ds : List D) : (mkEr x ps ds).c = x := rfl
theorem okEr_0 {x : Str} (h : (x, ([] : List Str)) ∈ errTab := by simp [errTab]) : okEr (mkEr x [] []) := ⟨[], [], h, rfl, rfl, rfl⟩
theorem okEr_1 {x p : Str} {d : D} (hd : d.imm = true) (h : (x, [p]) ∈ errTab := by simp [errTab]) : okEr (mkEr x [p] [d]) := ⟨[p], [d], h, rfl, by simp [hd], rfl⟩
theorem okEr_2 {x p q : Str} {a b : D} (ha : a.imm = true) (hb : b.imm = true) (h : (x, [p, q]) ∈ errTab := by simp [errTab]) : okEr (mkEr x [p, q] [a, b]) := ⟨[p, q], [a, b], h, rfl, by simp [ha, hb], rfl⟩
/-- the classes of the errors -/
structure ErrK (K : PySem.W.Frag) (mg : Str → Option Value) (CS : Addr) : Prop where
  sup : mg "SpanError" = some (.ref CS)
  cl : ∀ x ps C, (x, ps) ∈ errTab → mg x = some (.ref C) → XfC K C ∧ (∀ n ∈ errNames, PySem.W.findIn K (.ref C) n = some none) ∧ PySem.W.exmOne K (.ref C) (.ref CS) = some true
/-! ### x in (..): scalars in a tuple or list -/
@[simp] def scV : D → Option V
  | .non => some .non
  | .bl b => some (.bl b)
  | .int i => some (.int i)
  | .str x => some (.str x)
  | _ => none
@[simp] def scs : List D → Option (List V)
  | [] => some []
  | d :: ds => match scV d with
    | some v => match scs ds with
      | some vs => some (v :: vs)
      | none => none
    | none => none
@[simp] def fInF : DF2 := fun _ d _ d' Q => match elems d' with
  | some ds => match scV d with
    | some v => match scs ds with
      | some vs => Q (.v 2 (.bl (L2.inV v vs)))
      | none => False
    | none => False
  | none => False
@[simp] theorem inV_nil (x : V) : L2.inV x [] = false := rfl
@[simp] theorem inV_str (x y : Str) (r : List V) : L2.inV (.str x) (.str y :: r) = ((y == x) || L2.inV (.str x) r) := rfl
@[simp] theorem inV_int (x y : Int) (r : List V) : L2.inV (.int x) (.int y :: r) = ((y == x) || L2.inV (.int x) r) := rfl
theorem scV_rep {K : PySem.W.Frag} {T : Tab} {B : Option Addr} {M : Addr → Prop} {H : Hp} {d : D} {v u : V} (h : scV d = some v) (r : Rep K T B M H d u) : u = v ∧ flatV v = true := by
  cases d <;> simp at h <;> subst h <;> exact ⟨r, rfl⟩
theorem scs_rep {K : PySem.W.Frag} {T : Tab} {B : Option Addr} {M : Addr → Prop} {H : Hp} : ∀ {ds : List D} {vs us : List V}, scs ds = some vs → Reps K T B M H ds us → us = vs ∧ vs.all flatV = true
  | [], vs, us, h, r => by
    simp at h
    subst h
    exact ⟨r, rfl⟩
  | d :: ds, vs, us, h, ⟨v, r, e, h1, h2⟩ => by
    subst e
    unfold scs at h
    split at h
    · rename_i w hw
      split at h
      · rename_i ws hws
        cases h
        obtain ⟨rfl, f1⟩ := scV_rep hw h1
        obtain ⟨rfl, f2⟩ := scs_rep hws h2
        exact ⟨rfl, by rw [List.all_cons, f1, f2]; rfl⟩
      · cases h
    · cases h
theorem r2_inF {K : PySem.W.Frag} {T : Tab} : R2D K T (L2.rIn K false) fInF := by
  intro S τ σ H g d g' d' v u QD Q sr r1 r2 q k
  unfold fInF at q
  split at q
  · rename_i ds hd
    split at q
    · rename_i x hx
      split at q
      · rename_i xs hxs
        obtain ⟨p, vs, rfl, hq, rs⟩ := Rep.el r2 hd
        obtain ⟨rfl, f1⟩ := scV_rep hx r1
        obtain ⟨rfl, f2⟩ := scs_rep hxs rs
        exact ⟨p, _, rfl, hq, f1, f2, k H (.bl (L2.inV _ _)) (.v 2 (.bl (L2.inV _ _))) sr.same rfl q⟩
      · exact q.elim
    · exact q.elim
  · exact q.elim
/-! ### e.n of a handled error -/
@[simp] def dXf (u dx : Addr) (n : Str) (te : DTE) : DTE := fun τ Q => te τ fun s => match s.d with
  | .exn u' dx' ns ds => (u' = u ∧ dx' = dx) ∧ match (ns.zip ds).lookup n with
    | some d => Q (.v (up s.g d) d)
    | none => False
  | _ => False
theorem look_reps {K : PySem.W.Frag} {T : Tab} {B : Option Addr} {M : Addr → Prop} {H : Hp} {n : Str} {d : D} : ∀ {ns : List Str} {ds : List D} {vs : List V}, Reps K T B M H ds vs → (ns.zip ds).lookup n = some d → ∃ v, (ns.zip vs).lookup n = some v ∧ Rep K T B M H d v
  | [], _, _, _, e => by simp at e
  | _ :: _, [], _, _, e => by simp at e
  | m :: ns, x :: ds, _, ⟨v, r, e, h1, h2⟩, q => by
    subst e
    rw [List.zip_cons_cons, List.lookup_cons] at q ⊢
    by_cases hm : (n == m) = true
    · rw [hm] at q ⊢
      cases q
      exact ⟨v, rfl, h1⟩
    · rw [Bool.not_eq_true] at hm
      rw [hm] at q ⊢
      exact look_reps h2 q
theorem de_xf {X : Cx} {T : Tab} {C u dx : Addr} {ou : Obj} {n : Str} {e : Expr} {te : DTE} {pos : Pos} (TX : XfC X.K C) (none_ : PySem.W.findIn X.K (.ref C) n = some none) (hq : (u, ou) ∈ X.pn) (hz : Zc (.ref C) (some dx) ou) (hf : ∃ fs, ou.data = .fields fs) (he : PE X e (UpE X.K T te))
    (hb : attributeBase e n X.env (eval e X.env) = eval e X.env := by rfl) : PE X (.Attribute e n pos) (UpE X.K T (dXf u dx n te)) :=
  (LT.pe_field TX none_ hq hz hf he hb).of fun σ H Q ⟨S, τ, QD, sr, h, k⟩ => ⟨S, τ, _, sr, h, fun H1 v sl a r q1 => by
    have rg := r.g sr
    cases sd : sl.d with
    | exn u' dx' ns ds =>
      rw [sd] at q1 rg
      obtain ⟨⟨rfl, rfl⟩, q1⟩ := q1
      obtain ⟨vs, rfl, hd, m, rs⟩ := id rg
      cases el : (ns.zip ds).lookup n with
      | none => rw [el] at q1; exact q1.elim
      | some d =>
        rw [el] at q1
        obtain ⟨w, e1, e2⟩ := look_reps rs el
        exact ⟨rfl, _, w, hd, e1, k H1 w (.v (up sl.g d) d) a (RepG.up e2) q1⟩
    | _ => rw [sd] at q1; exact q1.elim⟩
/-! ### _law_field -/
def tField (u dx : Addr) : DTS := (dSeq (dIf (tV (dOp fInF (dXf u dx "word" (dVar 0)) (dTup (aCons (dK (.str "BadRow")) (aCons (dK (.str "BadCount")) aNil))))) (dRet (dXf u dx "number" (dVar 0))) dNext) (dSeq (dIf (tV (dOp fInF (dXf u dx "word" (dVar 0)) (dTup (aCons (dK (.str "BadPieces")) (aCons (dK (.str "BadCommand")) (aCons (dK (.str "BadDeed")) (aCons (dK (.str "BadText")) aNil))))))) (dRet (dXf u dx "at" (dVar 0))) dNext) (dSeq (dIf (tV (dOp fInF (dXf u dx "word" (dVar 0)) (dTup (aCons (dK (.str "BadName")) (aCons (dK (.str "Taken")) aNil))))) (dRet (dXf u dx "name" (dVar 0))) dNext) (dSeq (dIf (tV (dOp fInF (dXf u dx "word" (dVar 0)) (dTup (aCons (dK (.str "Gone")) (aCons (dK (.str "Ring")) aNil))))) (dRet (dXf u dx "cell" (dVar 0))) dNext) (dSeq (dIf (tV (dOp fInF (dXf u dx "word" (dVar 0)) (dTup (aCons (dK (.str "TooManyPieces")) (aCons (dK (.str "Full")) aNil))))) (dRet (dXf u dx "most" (dVar 0))) dNext) (dRet (dIfE (tV (dOp fEq (dXf u dx "word" (dVar 0)) (dK (.str "Clash")))) (dTup (aCons (dXf u dx "label" (dVar 0)) (aCons (dXf u dx "other" (dVar 0)) aNil))) (dK .non))))))))
abbrev bField (p1 p2 p3 p4 p5 p6 p7 p8 p9 p10 p11 p12 p13 p14 p15 p16 p17 p18 p19 p20 p21 p22 p23 p24 p25 p26 p27 p28 p29 p30 p31 p32 p33 p34 p35 p36 p37 p38 p39 p40 p41 p42 p43 p44 p45 p46 p47 p48 p49 p50 p51 p52 p53 p54 p55 p56 p57 p58 p59 p60 p61 p62 p63 p64 : Pos) (j1 j2 j3 j4 j5 j6 j7 j8 j9 j10 j11 j12 j13 j14 j15 j16 j17 j18 j19 j20 : Nat) : List Stmt := [.If (.Compare (.Attribute (.Name "_law_e" p1) "word" p2) [.In] [(.Tuple [(.Constant (.str "BadRow") j1 p3), (.Constant (.str "BadCount") j2 p4)] j3 p5)] p8) [.Return (some (.Attribute (.Name "_law_e" p6) "number" p7)) p9] [] p10, .If (.Compare (.Attribute (.Name "_law_e" p11) "word" p12) [.In] [(.Tuple [(.Constant (.str "BadPieces") j4 p13), (.Constant (.str "BadCommand") j5 p14), (.Constant (.str "BadDeed") j6 p15), (.Constant (.str "BadText") j7 p16)] j8 p17)] p20) [.Return (some (.Attribute (.Name "_law_e" p18) "at" p19)) p21] [] p22, .If (.Compare (.Attribute (.Name "_law_e" p23) "word" p24) [.In] [(.Tuple [(.Constant (.str "BadName") j9 p25), (.Constant (.str "Taken") j10 p26)] j11 p27)] p30) [.Return (some (.Attribute (.Name "_law_e" p28) "name" p29)) p31] [] p32, .If (.Compare (.Attribute (.Name "_law_e" p33) "word" p34) [.In] [(.Tuple [(.Constant (.str "Gone") j12 p35), (.Constant (.str "Ring") j13 p36)] j14 p37)] p40) [.Return (some (.Attribute (.Name "_law_e" p38) "cell" p39)) p41] [] p42, .If (.Compare (.Attribute (.Name "_law_e" p43) "word" p44) [.In] [(.Tuple [(.Constant (.str "TooManyPieces") j15 p45), (.Constant (.str "Full") j16 p46)] j17 p47)] p50) [.Return (some (.Attribute (.Name "_law_e" p48) "most" p49)) p51] [] p52, .Return (some (.IfExp (.Compare (.Attribute (.Name "_law_e" p53) "word" p54) [.Eq] [(.Constant (.str "Clash") j18 p55)] p61) (.Tuple [(.Attribute (.Name "_law_e" p56) "label" p57), (.Attribute (.Name "_law_e" p58) "other" p59)] j19 p60) (.Constant .none j20 p62) p63)) p64]
theorem field_walk {X : Cx} {T : Tab} {ek : EK} {C u dx : Addr} {ou : Obj} {p1 p2 p3 p4 p5 p6 p7 p8 p9 p10 p11 p12 p13 p14 p15 p16 p17 p18 p19 p20 p21 p22 p23 p24 p25 p26 p27 p28 p29 p30 p31 p32 p33 p34 p35 p36 p37 p38 p39 p40 p41 p42 p43 p44 p45 p46 p47 p48 p49 p50 p51 p52 p53 p54 p55 p56 p57 p58 p59 p60 p61 p62 p63 p64 : Pos} {j1 j2 j3 j4 j5 j6 j7 j8 j9 j10 j11 j12 j13 j14 j15 j16 j17 j18 j19 j20 : Nat} (TX : XfC X.K C) (h0 : ∀ n ∈ errNames, PySem.W.findIn X.K (.ref C) n = some none) (hq : (u, ou) ∈ X.pn) (hz : Zc (.ref C) (some dx) ou) (hf : ∃ fs, ou.data = .fields fs)
    (hN : X.N[0]? = some ("_law_e" : Str)) (v0 : Vis X.env.scope "_law_e") (hu : X.A.units + 65 < cLine) (hu4 : X.A.units + 64 < cLine) : PSs X (bField p1 p2 p3 p4 p5 p6 p7 p8 p9 p10 p11 p12 p13 p14 p15 p16 p17 p18 p19 p20 p21 p22 p23 p24 p25 p26 p27 p28 p29 p30 p31 p32 p33 p34 p35 p36 p37 p38 p39 p40 p41 p42 p43 p44 p45 p46 p47 p48 p49 p50 p51 p52 p53 p54 p55 p56 p57 p58 p59 p60 p61 p62 p63 p64 j1 j2 j3 j4 j5 j6 j7 j8 j9 j10 j11 j12 j13 j14 j15 j16 j17 j18 j19 j20) (UpS X.K T ek (tField u dx)) :=
  (ds_cons (ds_if (dt_cmp L2.op_in_seq r2_inF (de_xf TX (h0 "word" (by decide)) hq hz hf (de_var (i := 0) hN v0)) (de_tup (da_cons de_str (da_cons de_str da_nil))) rfl) (ds_one (ds_ret (de_xf TX (h0 "number" (by decide)) hq hz hf (de_var (i := 0) hN v0)))) ds_nil) (ds_cons (ds_if (dt_cmp L2.op_in_seq r2_inF (de_xf TX (h0 "word" (by decide)) hq hz hf (de_var (i := 0) hN v0)) (de_tup (da_cons de_str (da_cons de_str (da_cons de_str (da_cons de_str da_nil))))) rfl) (ds_one (ds_ret (de_xf TX (h0 "at" (by decide)) hq hz hf (de_var (i := 0) hN v0)))) ds_nil) (ds_cons (ds_if (dt_cmp L2.op_in_seq r2_inF (de_xf TX (h0 "word" (by decide)) hq hz hf (de_var (i := 0) hN v0)) (de_tup (da_cons de_str (da_cons de_str da_nil))) rfl) (ds_one (ds_ret (de_xf TX (h0 "name" (by decide)) hq hz hf (de_var (i := 0) hN v0)))) ds_nil) (ds_cons (ds_if (dt_cmp L2.op_in_seq r2_inF (de_xf TX (h0 "word" (by decide)) hq hz hf (de_var (i := 0) hN v0)) (de_tup (da_cons de_str (da_cons de_str da_nil))) rfl) (ds_one (ds_ret (de_xf TX (h0 "cell" (by decide)) hq hz hf (de_var (i := 0) hN v0)))) ds_nil) (ds_cons (ds_if (dt_cmp L2.op_in_seq r2_inF (de_xf TX (h0 "word" (by decide)) hq hz hf (de_var (i := 0) hN v0)) (de_tup (da_cons de_str (da_cons de_str da_nil))) rfl) (ds_one (ds_ret (de_xf TX (h0 "most" (by decide)) hq hz hf (de_var (i := 0) hN v0)))) ds_nil) (ds_one (ds_ret (de_ifExp (dt_cmp (op_eqD hu4) r2_eq (de_xf TX (h0 "word" (by decide)) hq hz hf (de_var (i := 0) hN v0)) de_str (nomark _)) (de_tup (da_cons (de_xf TX (h0 "label" (by decide)) hq hz hf (de_var (i := 0) hN v0)) (da_cons (de_xf TX (h0 "other" (by decide)) hq hz hf (de_var (i := 0) hN v0)) da_nil))) de_none))))))))

theorem field_pure {er : Er} (ok : okEr er) {N : List Str} {u dx : Addr} {Q : Sl → Prop} (nx : DSt → Prop) (er' : Er → Prop) (q : Q (.v 2 (fieldD er))) : tField u dx { nx := nx, rt := Q, er := er' } (startD N [.exn u dx (er.fs.map (·.1)) (er.fs.map (·.2))]) := by
  obtain ⟨ps, ds, hm, hl, hi, he⟩ := ok
  obtain ⟨x, fs⟩ := er
  simp only [mkEr, Er.mk.injEq] at he
  obtain ⟨_, rfl⟩ := he
  have u1 : ∀ d : D, d.imm = true → up 1 d = 2 := fun d h => up_g (.inl rfl) h
  simp only [errTab, List.mem_cons, Prod.mk.injEq, List.not_mem_nil, or_false] at hm
  rcases hm with ⟨rfl, rfl⟩ | ⟨rfl, rfl⟩ | ⟨rfl, rfl⟩ | ⟨rfl, rfl⟩ | ⟨rfl, rfl⟩ | ⟨rfl, rfl⟩ | ⟨rfl, rfl⟩ | ⟨rfl, rfl⟩ | ⟨rfl, rfl⟩ | ⟨rfl, rfl⟩ | ⟨rfl, rfl⟩ | ⟨rfl, rfl⟩ | ⟨rfl, rfl⟩ | ⟨rfl, rfl⟩ | ⟨rfl, rfl⟩ | ⟨rfl, rfl⟩
  all_goals first
    | (obtain ⟨a, rfl⟩ := List.length_eq_one_iff.mp hl
       simp at hi
       simp [tField, List.lookup, fieldD, u1 _ hi] at q ⊢
       exact q)
    | (obtain rfl := List.length_eq_zero_iff.mp hl
       simp [tField, List.lookup, fieldD] at q ⊢
       exact q)
    | (obtain ⟨a, b, rfl⟩ : ∃ a b, ds = [a, b] := by
         match ds, hl with
         | [a, b], _ => exact ⟨a, b, rfl⟩
       simp at hi
       simp [tField, List.lookup, fieldD, u1 _ hi.1, u1 _ hi.2] at q ⊢
       exact q)
end DL
/-! DX4: _law_field in a suite; _law_told(lambda: ..). Printed by mkDX4.py. -/
namespace DL
open PySem PySem.Spec PyProof.Rows L2 HotX L2H
/-- a handled error as data -/
abbrev xnD (u dx : Addr) (er : Er) : D := .exn u dx (er.fs.map fun p => p.1) (er.fs.map fun p => p.2)
theorem okEr.imm {er : Er} (h : okEr er) : (fieldD er).imm = true := by
  obtain ⟨ps, ds, hm, hl, hi, he⟩ := h
  obtain ⟨x, fs⟩ := er
  simp only [mkEr, Er.mk.injEq] at he
  obtain ⟨_, rfl⟩ := he
  simp only [errTab, List.mem_cons, Prod.mk.injEq, List.not_mem_nil, or_false] at hm
  rcases hm with ⟨rfl, rfl⟩ | ⟨rfl, rfl⟩ | ⟨rfl, rfl⟩ | ⟨rfl, rfl⟩ | ⟨rfl, rfl⟩ | ⟨rfl, rfl⟩ | ⟨rfl, rfl⟩ | ⟨rfl, rfl⟩ | ⟨rfl, rfl⟩ | ⟨rfl, rfl⟩ | ⟨rfl, rfl⟩ | ⟨rfl, rfl⟩ | ⟨rfl, rfl⟩ | ⟨rfl, rfl⟩ | ⟨rfl, rfl⟩ | ⟨rfl, rfl⟩
  all_goals first
    | (obtain ⟨a, rfl⟩ := List.length_eq_one_iff.mp hl
       simpa [fieldD] using hi)
    | (obtain rfl := List.length_eq_zero_iff.mp hl
       rfl)
    | (obtain ⟨a, r, rfl⟩ := List.exists_cons_of_length_eq_add_one hl
       obtain ⟨b, rfl⟩ := List.length_eq_one_iff.mp (by simpa using hl)
       simpa [fieldD] using hi)
theorem okEr.word {er : Er} (h : okEr er) : ((er.fs.map (·.1)).zip (er.fs.map (·.2))).lookup ("word" : Str) = some (.str er.c) := by
  obtain ⟨ps, ds, hm, hl, hi, he⟩ := h
  obtain ⟨x, fs⟩ := er
  simp only [mkEr, Er.mk.injEq] at he
  obtain ⟨_, rfl⟩ := he
  simp only [errTab, List.mem_cons, Prod.mk.injEq, List.not_mem_nil, or_false] at hm
  rcases hm with ⟨rfl, rfl⟩ | ⟨rfl, rfl⟩ | ⟨rfl, rfl⟩ | ⟨rfl, rfl⟩ | ⟨rfl, rfl⟩ | ⟨rfl, rfl⟩ | ⟨rfl, rfl⟩ | ⟨rfl, rfl⟩ | ⟨rfl, rfl⟩ | ⟨rfl, rfl⟩ | ⟨rfl, rfl⟩ | ⟨rfl, rfl⟩ | ⟨rfl, rfl⟩ | ⟨rfl, rfl⟩ | ⟨rfl, rfl⟩ | ⟨rfl, rfl⟩
  all_goals first
    | (obtain ⟨a, rfl⟩ := List.length_eq_one_iff.mp hl
       simp [List.lookup])
    | (obtain rfl := List.length_eq_zero_iff.mp hl
       simp [List.lookup])
    | (obtain ⟨a, r, rfl⟩ := List.exists_cons_of_length_eq_add_one hl
       obtain ⟨b, rfl⟩ := List.length_eq_one_iff.mp (by simpa using hl)
       simp [List.lookup])
def spField (K : PySem.W.Frag) (T : Tab) (mg : Str → Option Value) : Addr × Obj → Sp := fun q vs H Q _ => ∃ (B : Option Addr) (L : LX) (er : Er) (C dx : Addr), BagOk T B L H ∧ vs = [.ref q.1] ∧ Zc (.ref C) (some dx) q.2 ∧ (∃ fs, q.2.data = .fields fs) ∧ ErR K T mg B H er (.ref C) (some dx) ∧ okEr er ∧
  ∀ H' v, Kp (fun a => B = some a) H H' → BagOk T B L H' → Rep K T B (fun _ => True) H' (fieldD er) v → Q v H'
theorem field_ok {P : Program} {w : World} {K : PySem.W.Frag} {T : Tab} {mg : Str → Option Value} {base : Heap} {k : Nat} {f CS : Addr} {x qual : Str} {params : Arguments} {scope : Scope} {fd : FuncData} {p1 p2 p3 p4 p5 p6 p7 p8 p9 p10 p11 p12 p13 p14 p15 p16 p17 p18 p19 p20 p21 p22 p23 p24 p25 p26 p27 p28 p29 p30 p31 p32 p33 p34 p35 p36 p37 p38 p39 p40 p41 p42 p43 p44 p45 p46 p47 p48 p49 p50 p51 p52 p53 p54 p55 p56 p57 p58 p59 p60 p61 p62 p63 p64 : Pos} {j1 j2 j3 j4 j5 j6 j7 j8 j9 j10 j11 j12 j13 j14 j15 j16 j17 j18 j19 j20 : Nat}
    (F : FunD K x qual params (bField p1 p2 p3 p4 p5 p6 p7 p8 p9 p10 p11 p12 p13 p14 p15 p16 p17 p18 p19 p20 p21 p22 p23 p24 p25 p26 p27 p28 p29 p30 p31 p32 p33 p34 p35 p36 p37 p38 p39 p40 p41 p42 p43 p44 p45 p46 p47 p48 p49 p50 p51 p52 p53 p54 p55 p56 p57 p58 p59 p60 p61 p62 p63 p64 j1 j2 j3 j4 j5 j6 j7 j8 j9 j10 j11 j12 j13 j14 j15 j16 j17 j18 j19 j20) scope [] [] f fd) (S : FnScope ["_law_e"] ["_law_e"] scope) (v0 : Vis scope "_law_e") (CK : ErrK K mg CS) : LT.FnP P w K mg base (k + 1) f fd ["_law_e"] (spField K T mg) := by
  refine LT.fnP_of F S (fun q vs H Q E h => ?_) (fun cdv A outer s H vs Q E q hr h => ?_)
  · obtain ⟨_, _, _, _, _, _, rfl, _⟩ := h
    rfl
  · obtain ⟨B, L, er, C, dx, bag, rfl, hz, hf, eR, ok, kk⟩ := h
    obtain ⟨C', dx', ws, hm, ec, ed, hd, imm, rs⟩ := eR
    cases ec
    cases ed
    obtain ⟨ps, ds, hp, hl, hi, he⟩ := id ok
    obtain ⟨TX, h0, _⟩ := CK.cl _ _ _ hp hm
    have hu := hr.un
    refine ⟨_, field_walk (X := cxH C8.CX0 P w K mg base ["_law_e"] qual scope f cdv A outer s H E q) (T := T) (ek := ⟨mg, E⟩) (u := q.1) (ou := q.2) TX h0 (List.mem_singleton.mpr rfl) hz hf rfl v0
      (show (A.deeper (envOfC qual scope s.heap.objs.size f cdv)).units + 65 < cLine by omega) (show (A.deeper (envOfC qual scope s.heap.objs.size f cdv)).units + 64 < cLine by omega), ?_⟩
    have nb : ¬ B = some dx := fun z => by
      obtain ⟨_, _, _, _, _, _, h1, _⟩ := bag.bg dx z
      rw [hd] at h1
      cases h1
    have r : Reps K T B (fun a => B = some a) H [xnD q.1 dx er] [.ref q.1] := Reps.one ⟨ws, rfl, hd, nb, Reps.imm _ _ imm rs⟩
    have kb : ∀ {H' : Hp}, Kp (fun a => B = some a ∨ none = some a) H H' → Kp (fun a => B = some a) H H' := fun z => z.mono fun _ z => Or.elim z (fun z => z) (fun z => by cases z)
    have sr : SR K T ⟨B, L, none, H, fun _ => False, fun a => B = some a, []⟩ (startD ["_law_e"] [xnD q.1 dx er]) (L2.start ["_law_e"] [.ref q.1]) H := sr_start bag (fun a z => z.elim) r
    have o : Out K T ⟨mg, E⟩ ⟨B, L, none, H, fun _ => False, fun a => B = some a, []⟩ { nx := fun _ => False, rt := fun sl => sl = .v 2 (fieldD er), er := fun _ => False } { nx := fun _ H' => Q .non H', rt := Q } :=
      ⟨fun _ _ _ _ _ z => z.elim, fun _ _ _ _ _ z => z.elim, fun _ _ _ _ _ z => z.elim, fun H' v sl kp bag' rr q' => by
        subst q'
        exact kk H' v (kb kp) bag' (Rep.imm _ _ ok.imm rr), fun _ _ _ _ _ _ _ _ z => z.elim, fun _ _ _ _ _ _ _ z => z.elim⟩
    exact ⟨_, _, _, sr, field_pure (Q := fun sl => sl = .v 2 (fieldD er)) ok _ _ rfl, o⟩
/-- such a def -/
structure FldP (P : Program) (w : World) (K : PySem.W.Frag) (T : Tab) (mg : Str → Option Value) (base : Heap) (k : Nat) : Prop where
  ex : ∃ (f : Addr) (fd : FuncData) (ps : List Str), mg "_law_field" = some (.ref f) ∧ PySem.W.keepIn K (.ref f) = true ∧ Binds K fd ps [] ∧ LT.FnP P w K mg base k f fd ps (spField K T mg)
/-! ### the suite of _law_told -/
def tSuite (K : PySem.W.Frag) (T : Tab) (mg : Str → Option Value) (u : Addr) (cl : Value) (d : Option Addr) : TS := fun D σ H => ∃ (B : Option Addr) (L : LX) (er : Er), BagOk T B L H ∧ ErR K T mg B H er cl d ∧ okEr er ∧ (1 < σ.length → σ[1]? = some (some (.ref u))) ∧
  ∀ H' v, Kp (fun a => B = some a) H H' → BagOk T B L H' → Rep K T B (fun _ => True) H' (.tup [.str er.c, fieldD er]) v → D.rt v H'
theorem told_suite {X : Cx} {T : Tab} {k : Nat} {u CS : Addr} {ou : Obj} {cl : Value} {d : Option Addr} {p1 p2 p3 p4 p5 p6 p7 : Pos} {j1 : Nat} (FP : FldP X.prog X.w X.K T X.mg X.base k) (CK : ErrK X.K X.mg CS) (hr : RoomH k X.A) (hq : (u, ou) ∈ X.pn) (hz : Zc cl d ou) (hf : ∃ fs, ou.data = .fields fs)
    (hl : 1 < X.N.length) (hN : X.N[1]? = some ("_law_e" : Str)) (v1 : Vis X.env.scope "_law_e") (hg : Gl X "_law_field") : PSs X [.Return (some (.Tuple [(.Attribute (.Name "_law_e" p1) "word" p2), (.Call (.Name "_law_field" p3) [(.Name "_law_e" p4)] [] p5)] j1 p6)) p7] (tSuite X.K T X.mg u cl d) := by
  constructor
  intro pins s σ H D I h
  obtain ⟨B, L, er, bag, eR, ok, hs, kk⟩ := h
  obtain ⟨C, dx, ws, hm, ec, ed, hd, imm, rs⟩ := id eR
  subst ec ed
  obtain ⟨ps, ds, hp, hl2, hi, he⟩ := id ok
  obtain ⟨TX, h0, _⟩ := CK.cl _ _ _ hp hm
  obtain ⟨f, fd, pp, hm2, hk, hb, FN⟩ := FP.ex
  have hs1 := hs (by rw [I.len]; exact hl)
  obtain ⟨vw, e1, e2⟩ := look_reps rs ok.word
  have e2 : vw = .str er.c := e2
  subst e2
  have dv : PSs X [.Return (some (.Tuple [(.Attribute (.Name "_law_e" p1) "word" p2), (.Call (.Name "_law_field" p3) [(.Name "_law_e" p4)] [] p5)] j1 p6)) p7] _ := pss_one (ps_ret (pe_tup (pa_cons (LT.pe_field TX (h0 "word" (by simp [errNames])) hq hz hf (pe_var (i := 1) hN v1)) (pa_cons (LT.pe_callP FN hr hq hg hm2 hk hb (pa_cons (pe_var (i := 1) hN v1) pa_nil)) pa_nil))))
  refine dv.run pins s σ H D I ?_
  refine ⟨.ref u, hs1, rfl, _, _, hd, e1, .ref u, hs1, B, L, er, C, dx, bag, rfl, hz, hf, eR, ok, fun H1 v kp bag1 rv => ⟨lim_le' (Nat.le_of_ble_eq_true rfl), fun p hn => ?_⟩⟩
  refine kk _ _ (kp.trans (Kp.laid hn)) (bag1.kp0 (Kp.laid hn) (Tk.laid hn)) ⟨p, _, rfl, SqT.of upd_same, .str er.c, [v], rfl, rfl, v, [], rfl, ?_, rfl⟩
  exact Rep.imm _ _ ok.imm (Rep.kp (N := fun _ => False) (Kp.laid hn) (fun _ z => z.elim) _ _ rv)
/-! ### _law_told -/
abbrev bTold (st2 st3 : Stmt) (sts2 sts3 : List Stmt) (p1 p2 p3 p4 p5 p6 p7 p8 p9 p10 p11 p12 p13 p14 p15 p16 p17 p18 p19 : Pos) (j1 j2 j3 : Nat) : List Stmt := [.Try [.Return (some (.Tuple [(.Constant (.str "told") j2 p8), (.Call (.Name "_law_ask" p9) [] [] p10)] j3 p11)) p12] [.ExceptHandler (some (.Name "SpanError" p13)) (some "_law_e") [.Return (some (.Tuple [(.Attribute (.Name "_law_e" p1) "word" p2), (.Call (.Name "_law_field" p3) [(.Name "_law_e" p4)] [] p5)] j1 p6)) p7] p14, .ExceptHandler (some (.Name "NoName" p15)) (some "_law_e") (st2 :: sts2) p16, .ExceptHandler (some (.Name "NothingLeft" p17)) (some "_law_e") (st3 :: sts3) p18] [] [] p19]
def TTd (K : PySem.W.Frag) (T : Tab) (mg : Str → Option Value) : (XK → Hp → VK → Prop) → Hp → VK → Prop := fun tl H Q => ∃ E : XK, tl E H (fun v H1 => [V.str "told", v].length ≤ sizeLine ∧ ∀ p, H1 p = none → Q (.ref p) (upd H1 p (.tup [.str "told", v]))) ∧
  ∀ cl d H1, E cl d H1 → ∃ (B : Option Addr) (L : LX) (er : Er), BagOk T B L H1 ∧ ErR K T mg B H1 er cl d ∧ okEr er ∧ ∀ H' v, Kp (fun a => B = some a) H1 H' → BagOk T B L H' → Rep K T B (fun _ => True) H' (.tup [.str er.c, fieldD er]) v → Q v H'
abbrev NTold : List Str := ["_law_ask", "_law_e"]
theorem told_gives {X : Cx} {T : Tab} {k : Nat} {g CS : Addr} {sg : Scope} {cdg : Value} {x q : Str} {st2 st3 : Stmt} {sts2 sts3 : List Stmt} {p1 p2 p3 p4 p5 p6 p7 p8 p9 p10 p11 p12 p13 p14 p15 p16 p17 p18 p19 : Pos} {j1 j2 j3 : Nat} (FP : FldP X.prog X.w X.K T X.mg X.base k) (CK : ErrK X.K X.mg CS) (CN : ∃ c, X.mg "NoName" = some (.ref c)) (CL : ∃ c, X.mg "NothingLeft" = some (.ref c)) (hr : Room (k + 1) X.A)
    (g1 : sg.names.lookup ("SpanError" : Str) = some .globalImplicit) (g2 : sg.names.lookup ("NoName" : Str) = some .globalImplicit) (g3 : sg.names.lookup ("NothingLeft" : Str) = some .globalImplicit) (g4 : sg.names.lookup ("_law_field" : Str) = some .globalImplicit) (vl : sg.names.lookup ("_law_e" : Str) = some .local) :
    LamX.GivesTo X NTold x sg g cdg (bTold st2 st3 sts2 sts3 p1 p2 p3 p4 p5 p6 p7 p8 p9 p10 p11 p12 p13 p14 p15 p16 p17 p18 p19 j1 j2 j3) "_law_ask" q (TTd X.K T X.mg) := by
  intro f c' s H Q tl act hc h
  obtain ⟨cn, hcn⟩ := CN
  obtain ⟨cl, hcl⟩ := CL
  refine ⟨_, pss_one (LT.ps_tryN (X := (cxOf C8.CX0 X.prog X.w X.K X.mg X.base NTold x sg g cdg X.A X.stack s H C8.E0).nox) (i := 1) (Wo := fun _ _ _ _ => False)
      (tb := fun W D σ H => ∃ E : XK, (∀ cls d σ' H', E cls d H' → W cls d σ' H') ∧ σ[0]? = some (some (.ref f)) ∧ H c' = some (LamX.CodeO c' q) ∧ tl E H fun v H1 => [V.str "told", v].length ≤ sizeLine ∧ ∀ p, H1 p = none → D.rt (.ref p) (upd H1 p (.tup [.str "told", v])))
      (cs := [(.ref CS, fun u cl d => tSuite X.K T X.mg u cl d), (.ref cn, fun _ _ _ => fun _ _ _ => False), (.ref cl, fun _ _ _ => fun _ _ _ => False)])
      rfl rfl (show NTold.Nodup by decide +kernel) rfl vl LamX.takes0 (fun W pn xe tk _ => ?_) ?_), ?_⟩
  · refine ⟨fun pins s' σ H' D I h' => ?_⟩
    obtain ⟨E, hW, h1, h2, h3⟩ := h'
    have hp := act W pn xe E p9 p10 tk hW
    have hq : PSs _ [.Return (some (.Tuple [(.Constant (.str "told") j2 p8), (.Call (.Name "_law_ask" p9) [] [] p10)] j3 p11)) p12] _ := pss_one (ps_ret (pos := p12) (pe_tup (pos := p11) (pa_cons (pe_str (j := j2) (pos := p8)) (pa_cons hp pa_nil))))
    exact hq.run pins s' σ H' D I ⟨h1, h2, h3⟩
  · refine .more ⟨g1, by decide, .inl CK.sup⟩ (fun u ou cl d ps hz hf => ?_) (.more ⟨g2, by decide, .inl hcn⟩ (fun u ou cl d ps hz hf => ⟨fun _ _ _ _ _ _ z => z.elim⟩) (.more ⟨g3, by decide, .inl hcl⟩ (fun u ou cl d ps hz hf => ⟨fun _ _ _ _ _ _ z => z.elim⟩) .none))
    exact told_suite FP CK ⟨(hr.deeper (envOfC x sg s.heap.objs.size g cdg)).dp, (hr.deeper (envOfC x sg s.heap.objs.size g cdg)).un⟩ List.mem_cons_self hz hf (show 1 < NTold.length by decide) rfl (.inl vl) g4
  · obtain ⟨E, h1, h2⟩ := h
    refine ⟨E, fun cls d σ' H' he => ?_, rfl, hc, h1⟩
    obtain ⟨B, L, er, bag, eR, ok, kk⟩ := h2 cls d H' he
    obtain ⟨C, dx, ws, hm, ec, ed, hd, imm, rs⟩ := id eR
    obtain ⟨ps, ds, hp, hl2, hi, he⟩ := id ok
    refine ⟨true, by rw [ec]; exact (CK.cl _ _ _ hp hm).2.2, fun _ u hu => ⟨B, L, er, bag, eR, ok, fun hl => ?_, kk⟩, fun z => by cases z⟩
    rw [List.length_set] at hl
    exact List.getElem?_set_self hl
/-! ### _law_told(lambda: e) -/
@[simp] def dTold (te : DTEx) : DTE := fun τ Q => te τ (fun sl => Q (.v (up sl.g sl.d) (.tup [.str "told", sl.d]))) fun er => okEr er ∧ Q (.v 2 (.tup [.str er.c, fieldD er]))
theorem passes_lam {X : Cx} {A : Around} {outer : List Env} {s : Shared} {H : Hp} {E : XK} {scope : Scope} {f c' : Addr} : Passes (L2.CX (LamX.lamCx X A outer s H E scope f c').prog (LamX.lamCx X A outer s H E scope f c').w) (LamX.lamCx X A outer s H E scope f c') E := by
  have tk : L2.Takes (LamX.lamCx X A outer s H E scope f c') (fun cls d _ H => E cls d H) := L2.takes_of (X := LamX.lamCx X A outer s H E scope f c') rfl rfl rfl rfl
  exact L2.passes_call tk fun _ _ _ _ z => z
theorem extN_aft {K : PySem.W.Frag} {T : Tab} {S : Sit} {τ : DSt} {σ : L2.St} {H H1 : Hp} (sr : SR K T S τ σ H) (e : LamX.ExtN H H1) (t : LamX.Tabs (tabsT T) H1) : Aft K T S H H1 := by
  refine ⟨⟨fun a o h _ n => e a o h n, fun a xs h => e a _ h (fun ps z => by cases z), fun a o u h => e a _ h (fun ps z => by cases z), fun a h => ?_⟩, ⟨fun b hb => ?_, t⟩⟩
  · obtain ⟨o, ho, n⟩ := h.ex
    exact Lv.of (e a o ho n) n
  · obtain ⟨h0, ns, i, x, m, c, h1, h2, h3⟩ := sr.bag.bg b hb
    exact ⟨h0, ns, i, x, m, c, e _ _ h1 (fun ps z => by cases z), e _ _ h2 (fun ps z => by cases z), h3⟩
/-- what a frame that makes lambdas stands on: its code object, its table -/
structure LamT (X : Cx) (T : Tab) : Prop where
  ex : ∃ c P, LamX.TabB X.base X.mg c P ∧ X.env.code = .ref c ∧ (P, X.env.qual ++ "<lambda>") ∈ tabsT T ∧ ∀ p ∈ tabsT T, p.1 = P → p.2 = X.env.qual ++ "<lambda>"
/-- the def _law_told -/
structure TldP (P : Program) (w : World) (K : PySem.W.Frag) (T : Tab) (mg : Str → Option Value) (base : Heap) (k : Nat) : Prop where
  nn : ∃ c, mg "NoName" = some (.ref c)
  nl : ∃ c, mg "NothingLeft" = some (.ref c)
  ck : ∃ CS, ErrK K mg CS
  fp : FldP P w K T mg base k
  ex : ∃ (g : Addr) (pg : Arguments) (bg : List Stmt) (sg : Scope) (dV kV doc pm cdv ct oc : Value) (an od : Option Addr) (osl : Array (Option Value)), mg "_law_told" = some (.ref g) ∧ PySem.W.keepIn K (.ref g) = true ∧
    K.lookup g = some ⟨oc, od, .func (PySem.W.fnOf "_law_told" "_law_told" pg bg sg dV kV doc pm an cdv ct), osl⟩ ∧ PySem.W.codeIn K cdv "_law_told" = true ∧ L2.Binds K (PySem.W.fnOf "_law_told" "_law_told" pg bg sg dV kV doc pm an cdv ct) ["_law_ask"] [] ∧ FnScope NTold ["_law_ask"] sg ∧
    (sg.names.lookup ("SpanError" : Str) = some .globalImplicit ∧ sg.names.lookup ("NoName" : Str) = some .globalImplicit ∧ sg.names.lookup ("NothingLeft" : Str) = some .globalImplicit ∧ sg.names.lookup ("_law_field" : Str) = some .globalImplicit ∧ sg.names.lookup ("_law_e" : Str) = some .local ∧ Vis sg "_law_ask") ∧
    ∃ (st2 st3 : Stmt) (sts2 sts3 : List Stmt) (p1 p2 p3 p4 p5 p6 p7 p8 p9 p10 p11 p12 p13 p14 p15 p16 p17 p18 p19 : Pos) (j1 j2 j3 : Nat), bg = bTold st2 st3 sts2 sts3 p1 p2 p3 p4 p5 p6 p7 p8 p9 p10 p11 p12 p13 p14 p15 p16 p17 p18 p19 j1 j2 j3
theorem de_told {X : Cx} {T : Tab} {k kf : Nat} {params : Arguments} {body : Expr} {scope : Scope} {te : DTEx} {p lpos pos : Pos} (TP : TldP X.prog X.w X.K T X.mg X.base kf) (LT_ : LamT X T) (hk : kf ≤ k + 1) (hr : Room (k + 2) X.A) (hg : Gl X "_law_told") (L : LamX.LamS X.env.scope scope)
    (hbody : ∀ (A : Around) (outer : List Env) (s : Shared) (H : Hp) (E : XK) (f c' : Addr), Room k (A.deeper (LamX.lamEnv X scope s.heap.objs.size f c')) → PE (LamX.lamCx X A outer s H E scope f c') body (UpEx X.K T ⟨X.mg, E⟩ te))
    (hdef : defaultsOf params X.env = ([], []) := by rfl) (hbind : ∀ (q : Str) (cl : List (Str × Addr)) (pm cv ctv : Value), bindArgs (PySem.W.kla_fn "<lambda>" q params body scope cl pm cv ctv) ⟨[], []⟩ = pure [] := by intros; rfl) :
    PE X (.Call (.Name "_law_told" p) [.Lambda params body scope lpos] [] pos) (UpE X.K T (dTold te)) := by
  obtain ⟨g, pg, bg, sg, dV, kV, doc, pm, cdv, ct, oc, an, od, osl, h1, h2, h3, h4, h5, h6, ⟨g1, g2, g3, g4, g5, g6⟩, st2, st3, sts2, sts3, p1, p2, p3, p4, p5, p6, p7, p8, p9, p10, p11, p12, p13, p14, p15, p16, p17, p18, p19, j1, j2, j3, rfl⟩ := TP.ex
  obtain ⟨c, P, tb, hc, hm, hu⟩ := LT_.ex
  obtain ⟨CS, CK⟩ := TP.ck
  refine ⟨fun pins s σ H Q I ⟨S, τ, QD, sr, h, kq⟩ => ?_⟩
  refine (LamX.pe_lamcall (X := X) (T := tabsT T) (TT := TTd X.K T X.mg) (t := fun E => UpEx X.K T ⟨X.mg, E⟩ te) (k := k) (Ng := NTold) hg h1 h2 h3 h4 h5 h6 rfl g6
    (told_gives TP.fp CK TP.nn TP.nl (hr.mono (by omega)) g1 g2 g3 g4 g5) tb hc hm hu hr L hdef hbind hbody).run pins s σ H Q I ⟨sr.bag.tb, fun H1 eN t1 => ?_⟩
  have a1 := extN_aft sr eN t1
  have s1 := sr.aft a1
  refine ⟨fun cl d H2 => ∃ er, Aft X.K T S H H2 ∧ ErR X.K T X.mg S.B H2 er cl d ∧ okEr er ∧ QD (.v 2 (.tup [.str er.c, fieldD er])), ?_, fun cl d H2 ⟨er, a2, eR, ok, q⟩ => ⟨S.B, S.L, er, a2.bag, eR, ok, fun H3 v kp bag rv => ?_⟩⟩
  · refine ⟨S, τ, _, _, s1, h, fun H2 v sl a2 r q => ⟨lim_le' (Nat.le_of_ble_eq_true rfl), fun p hn => ?_⟩, fun H2 er cl d a2 eR ⟨ok, q⟩ => ⟨er, a1.trans a2, eR, ok, q⟩⟩
    have s2 := s1.aft a2
    have a3 := s2.laid (o := .tup [.str "told", v]) hn
    exact kq _ _ (.v (up sl.g sl.d) (.tup [.str "told", sl.d])) (a1.trans (a2.trans a3)) ⟨p, _, rfl, SqT.of upd_same, .str "told", [v], rfl, rfl, v, [], rfl, RepG.up (s2.rep a3.kp (r.g s1)), rfl⟩ q
  · have a3 : Aft X.K T S H H3 := ⟨a2.kp.trans kp, bag⟩
    refine kq H3 v (.v 2 (.tup [.str er.c, fieldD er])) a3 (Rep.imm _ _ ?_ rv) q
    show ((D.str er.c).imm && immAll [fieldD er]) = true
    simp [ok.imm]
theorem told_mk {P : Program} {w : World} {K : PySem.W.Frag} {T : Tab} {mg : Str → Option Value} {base : Heap} {k : Nat} {g CS : Addr} {pg : Arguments} {sg : Scope} {fd : FuncData} {st2 st3 : Stmt} {sts2 sts3 : List Stmt} {p1 p2 p3 p4 p5 p6 p7 p8 p9 p10 p11 p12 p13 p14 p15 p16 p17 p18 p19 : Pos} {j1 j2 j3 : Nat}
    (F : FunD K "_law_told" "_law_told" pg (bTold st2 st3 sts2 sts3 p1 p2 p3 p4 p5 p6 p7 p8 p9 p10 p11 p12 p13 p14 p15 p16 p17 p18 p19 j1 j2 j3) sg [] [] g fd) (m : mg "_law_told" = some (.ref g)) (S : FnScope NTold ["_law_ask"] sg)
    (hb : ∀ (kV doc pm : Value) (an : Option Addr) (cdv ct : Value) (us : List Value), us.length = ["_law_ask"].length → bindArgs (PySem.W.fnOf "_law_told" "_law_told" pg (bTold st2 st3 sts2 sts3 p1 p2 p3 p4 p5 p6 p7 p8 p9 p10 p11 p12 p13 p14 p15 p16 p17 p18 p19 j1 j2 j3) sg .none kV doc pm an cdv ct) ⟨us, []⟩ = pure ((["_law_ask"] : List Str).zip us))
    (hs : sg.names.lookup ("SpanError" : Str) = some .globalImplicit ∧ sg.names.lookup ("NoName" : Str) = some .globalImplicit ∧ sg.names.lookup ("NothingLeft" : Str) = some .globalImplicit ∧ sg.names.lookup ("_law_field" : Str) = some .globalImplicit ∧ sg.names.lookup ("_law_e" : Str) = some .local ∧ Vis sg "_law_ask")
    (nn : ∃ c, mg "NoName" = some (.ref c)) (nl : ∃ c, mg "NothingLeft" = some (.ref c)) (CK : ErrK K mg CS) (fp : FldP P w K T mg base k) : TldP P w K T mg base k := by
  have B := F.bindsN (ps := ["_law_ask"]) hb
  have kp := F.kp
  obtain ⟨oc, od, dV, kV, doc, pm, an, cdv, ct, osl, rfl, lk, hcd, _, _⟩ := F.ex
  exact ⟨nn, nl, ⟨CS, CK⟩, fp, g, pg, _, sg, dV, kV, doc, pm, cdv, ct, oc, an, od, osl, m, kp, lk, hcd, B, S, hs, st2, st3, sts2, sts3, p1, p2, p3, p4, p5, p6, p7, p8, p9, p10, p11, p12, p13, p14, p15, p16, p17, p18, p19, j1, j2, j3, rfl⟩
theorem fld_mk {P : Program} {w : World} {K : PySem.W.Frag} {T : Tab} {mg : Str → Option Value} {base : Heap} {f CS : Addr} {params : Arguments} {scope : Scope} {fd : FuncData} {p1 p2 p3 p4 p5 p6 p7 p8 p9 p10 p11 p12 p13 p14 p15 p16 p17 p18 p19 p20 p21 p22 p23 p24 p25 p26 p27 p28 p29 p30 p31 p32 p33 p34 p35 p36 p37 p38 p39 p40 p41 p42 p43 p44 p45 p46 p47 p48 p49 p50 p51 p52 p53 p54 p55 p56 p57 p58 p59 p60 p61 p62 p63 p64 : Pos} {j1 j2 j3 j4 j5 j6 j7 j8 j9 j10 j11 j12 j13 j14 j15 j16 j17 j18 j19 j20 : Nat}
    (F : FunD K "_law_field" "_law_field" params (bField p1 p2 p3 p4 p5 p6 p7 p8 p9 p10 p11 p12 p13 p14 p15 p16 p17 p18 p19 p20 p21 p22 p23 p24 p25 p26 p27 p28 p29 p30 p31 p32 p33 p34 p35 p36 p37 p38 p39 p40 p41 p42 p43 p44 p45 p46 p47 p48 p49 p50 p51 p52 p53 p54 p55 p56 p57 p58 p59 p60 p61 p62 p63 p64 j1 j2 j3 j4 j5 j6 j7 j8 j9 j10 j11 j12 j13 j14 j15 j16 j17 j18 j19 j20) scope [] [] f fd) (m : mg "_law_field" = some (.ref f)) (S : FnScope ["_law_e"] ["_law_e"] scope) (v0 : Vis scope "_law_e") (CK : ErrK K mg CS)
    (hb : ∀ (kV doc pm : Value) (an : Option Addr) (cdv ct : Value) (us : List Value), us.length = ["_law_e"].length → bindArgs (PySem.W.fnOf "_law_field" "_law_field" params (bField p1 p2 p3 p4 p5 p6 p7 p8 p9 p10 p11 p12 p13 p14 p15 p16 p17 p18 p19 p20 p21 p22 p23 p24 p25 p26 p27 p28 p29 p30 p31 p32 p33 p34 p35 p36 p37 p38 p39 p40 p41 p42 p43 p44 p45 p46 p47 p48 p49 p50 p51 p52 p53 p54 p55 p56 p57 p58 p59 p60 p61 p62 p63 p64 j1 j2 j3 j4 j5 j6 j7 j8 j9 j10 j11 j12 j13 j14 j15 j16 j17 j18 j19 j20) scope .none kV doc pm an cdv ct) ⟨us, []⟩ = pure ((["_law_e"] : List Str).zip us)) : FldP P w K T mg base 1 :=
  ⟨f, fd, ["_law_e"], m, F.kp, F.bindsN hb, field_ok (k := 0) F S v0 CK⟩
end DL
/-! DX5: frames that let errors out; the promises of defs that may raise. -/
namespace DL
open PySem PySem.Spec PyProof.Rows L2
section
variable {P : Program} {w : World} {K : PySem.W.Frag} {T : Tab} {mg : Str → Option Value} {base : Heap} {N : List Str} {qual : Str} {scope : Scope} {f : Addr} {cd : Value} {A : Around} {outer : List Env} {s : Shared} {H : Hp} {E : XK}
theorem takes_cx : L2.Takes (cxOf (L2.CX P w) P w K mg base N qual scope f cd A outer s H E) (fun cls d _ H => E cls d H) := L2.takes_of (X := cxOf (L2.CX P w) P w K mg base N qual scope f cd A outer s H E) rfl rfl rfl rfl
theorem passes_cx : Passes (L2.CX P w) (cxOf (L2.CX P w) P w K mg base N qual scope f cd A outer s H E) E := L2.passes_call takes_cx fun _ _ _ _ z => z
theorem owns_cx : PassesOwn (model P w) (cxOf (L2.CX P w) P w K mg base N qual scope f cd A outer s H E).A (cxOf (L2.CX P w) P w K mg base N qual scope f cd A outer s H E).env (cxOf (L2.CX P w) P w K mg base N qual scope f cd A outer s H E).xe :=
  L2.passes_of (X := cxOf (L2.CX P w) P w K mg base N qual scope f cd A outer s H E) (K := fun e s'' => L2.CX P w outer H s E e s'') rfl
end
/-- the plain law of a def that may raise -/
def PureX (C : CtrX) (t : DTS) (N : List Str) : Prop := ∀ ds QD QE, C ds QD QE → t { nx := fun _ => QD (.v 2 .non), rt := QD, er := QE } (startD N ds)
section
variable {P : Program} {w : World} {K : PySem.W.Frag} {T : Tab} {mg : Str → Option Value} {base : Heap} {x m qual : Str} {params : Arguments} {body : List Stmt} {scope : Scope} {f : Addr} {fd : FuncData} {k c : Nat} {ps : List Str} {C : CtrX}
theorem fnx_mk (F : FunD K x qual params body scope [] [] f fd) (hm : mg x = some (.ref f)) (ok : FnOk P w K mg base (L2.CX P w) k f fd ps (spX K T mg C))
    (hb : ∀ (kV doc pm : Value) (an : Option Addr) (cdv ct : Value) (us : List Value), us.length = ps.length → bindArgs (PySem.W.fnOf x qual params body scope .none kV doc pm an cdv ct) ⟨us, []⟩ = pure (ps.zip us)) : FnX P w K T mg base x k [] C :=
  ⟨f, fd, ps, [], [], hm, F.kp, F.bindsN hb, .nil, rfl, ok⟩
theorem mtx_mk (F : FunD K m qual params body scope [] [] f fd) (cl : Cls K (T c).1) (hm : Meth K (T c).1 m f) (hn : m ∉ (T c).2) (ok : FnOk P w K mg base (L2.CX P w) k f fd ps (spX K T mg C))
    (hb : ∀ (kV doc pm : Value) (an : Option Addr) (cdv ct : Value) (us : List Value), us.length = ps.length → bindArgs (PySem.W.fnOf m qual params body scope .none kV doc pm an cdv ct) ⟨us, []⟩ = pure (ps.zip us)) : MtX P w K T mg base c m k [] C :=
  ⟨f, fd, ps, [], [], cl, hm, hn, F.bindsN hb, .nil, rfl, ok⟩
end
/-! ### the errors' own __init__ -/
theorem spErr_congr {C : Addr} {n : Nat} {fs gs : List V → List (Str × V)} (h : ∀ ws, ws.length = n → fs ws = gs ws) {vs : List V} {H : Hp} {Q : VK} {E : XK} (x : spErr C n gs vs H Q E) : spErr C n fs vs H Q E := by
  obtain ⟨a, ws, e, hl, ha, q⟩ := x
  exact ⟨a, ws, e, hl, ha, fun dx H' h1 h2 h3 h4 h5 => q dx H' h1 h2 h3 (by rw [← h ws hl]; exact h4) h5⟩
section
variable {P : Program} {w : World} {K : PySem.W.Frag} {mg : Str → Option Value} {base : Heap} {x qual wd sf f1 f2 v1 v2 : Str} {params : Arguments} {scope : Scope} {f C : Addr} {fd : FuncData} {j : Nat} {p1 p2 p3 p4 p5 p6 p7 p8 p9 p10 p11 p12 : Pos}
theorem erc_mk0 (F : FunD K "__init__" qual params [.Assign [.Attribute (.Name sf p1) "word" p2] (.Constant (.str x) j p3) p4] scope [] [] f fd) (S : FnScope [sf] [sf] scope) (hm : mg x = some (.ref C)) (T : OexC K C) (M : Meth K C "__init__" f) (h0 : PySem.W.findIn K (.ref C) "word" = some none)
    (hb : ∀ (kV doc pm : Value) (an : Option Addr) (cdv ct : Value) (us : List Value), us.length = [sf].length → bindArgs (PySem.W.fnOf "__init__" qual params [.Assign [.Attribute (.Name sf p1) "word" p2] (.Constant (.str x) j p3) p4] scope .none kV doc pm an cdv ct) ⟨us, []⟩ = pure ([sf].zip us))
    (v0 : Vis scope sf := by exact .inl rfl) (d0 : (sf == ("__debug__" : Str)) = false := by decide) (d1 : (sf == ("__classdict__" : Str)) = false := by decide) : ErC P w K mg base x 1 [] :=
  ⟨C, f, fd, [sf], hm, T, M.at_, beq_iff_eq.mp M.fn, F.bindsN hb, (err0_ok (k := 0) F S T h0 v0 d0 d1).imp fun _ _ _ _ z => spErr_congr (fun ws hl => by rfl) z⟩
theorem erc_mk1 (F : FunD K "__init__" qual params [.Assign [.Attribute (.Name sf p1) "word" p2] (.Constant (.str x) j p3) p4, .Assign [.Attribute (.Name sf p5) f1 p6] (.Name f1 p7) p8] scope [] [] f fd) (S : FnScope [sf, f1] [sf, f1] scope) (hm : mg x = some (.ref C)) (T : OexC K C) (M : Meth K C "__init__" f)
    (h0 : PySem.W.findIn K (.ref C) "word" = some none) (h1 : PySem.W.findIn K (.ref C) f1 = some none)
    (hb : ∀ (kV doc pm : Value) (an : Option Addr) (cdv ct : Value) (us : List Value), us.length = [sf, f1].length → bindArgs (PySem.W.fnOf "__init__" qual params [.Assign [.Attribute (.Name sf p1) "word" p2] (.Constant (.str x) j p3) p4, .Assign [.Attribute (.Name sf p5) f1 p6] (.Name f1 p7) p8] scope .none kV doc pm an cdv ct) ⟨us, []⟩ = pure ([sf, f1].zip us))
    (v0 : Vis scope sf := by exact .inl rfl) (v1 : Vis scope f1 := by exact .inl rfl) (d0 : (sf == ("__debug__" : Str)) = false := by decide) (d1 : (sf == ("__classdict__" : Str)) = false := by decide) (d2 : (f1 == ("__debug__" : Str)) = false := by decide) (d3 : (f1 == ("__classdict__" : Str)) = false := by decide) : ErC P w K mg base x 1 [f1] :=
  ⟨C, f, fd, [sf, f1], hm, T, M.at_, beq_iff_eq.mp M.fn, F.bindsN hb, (err1_ok (k := 0) F S T h0 h1 v0 v1 d0 d1 d2 d3).imp fun _ _ _ _ z => spErr_congr (fun ws hl => by
    obtain ⟨y, rfl⟩ := List.length_eq_one_iff.mp hl
    rfl) z⟩
theorem erc_mk2 (F : FunD K "__init__" qual params [.Assign [.Attribute (.Name sf p1) "word" p2] (.Constant (.str x) j p3) p4, .Assign [.Attribute (.Name sf p5) f1 p6] (.Name f1 p7) p8, .Assign [.Attribute (.Name sf p9) f2 p10] (.Name f2 p11) p12] scope [] [] f fd) (S : FnScope [sf, f1, f2] [sf, f1, f2] scope) (hm : mg x = some (.ref C)) (T : OexC K C) (M : Meth K C "__init__" f)
    (h0 : PySem.W.findIn K (.ref C) "word" = some none) (h1 : PySem.W.findIn K (.ref C) f1 = some none) (h2 : PySem.W.findIn K (.ref C) f2 = some none)
    (hb : ∀ (kV doc pm : Value) (an : Option Addr) (cdv ct : Value) (us : List Value), us.length = [sf, f1, f2].length → bindArgs (PySem.W.fnOf "__init__" qual params [.Assign [.Attribute (.Name sf p1) "word" p2] (.Constant (.str x) j p3) p4, .Assign [.Attribute (.Name sf p5) f1 p6] (.Name f1 p7) p8, .Assign [.Attribute (.Name sf p9) f2 p10] (.Name f2 p11) p12] scope .none kV doc pm an cdv ct) ⟨us, []⟩ = pure ([sf, f1, f2].zip us))
    (v0 : Vis scope sf := by exact .inl rfl) (v1 : Vis scope f1 := by exact .inl rfl) (v2 : Vis scope f2 := by exact .inl rfl) (d0 : (sf == ("__debug__" : Str)) = false := by decide) (d1 : (sf == ("__classdict__" : Str)) = false := by decide) (d2 : (f1 == ("__debug__" : Str)) = false := by decide) (d3 : (f1 == ("__classdict__" : Str)) = false := by decide) (d4 : (f2 == ("__debug__" : Str)) = false := by decide) (d5 : (f2 == ("__classdict__" : Str)) = false := by decide) : ErC P w K mg base x 1 [f1, f2] :=
  ⟨C, f, fd, [sf, f1, f2], hm, T, M.at_, beq_iff_eq.mp M.fn, F.bindsN hb, (err2_ok (k := 0) F S T h0 h1 h2 v0 v1 v2 d0 d1 d2 d3 d4 d5).imp fun _ _ _ _ z => spErr_congr (fun ws hl => by
    obtain ⟨y, r, rfl⟩ := List.exists_cons_of_length_eq_add_one hl
    obtain ⟨u, rfl⟩ := List.length_eq_one_iff.mp (by simpa using hl)
    rfl) z⟩
end
end DL
/-! DX6: sums of lists of numbers; is / is not with True and False. -/
namespace DL
open PySem PySem.Spec PyProof.Rows L2
@[simp] def intsD : List D → Option (List Int)
  | [] => some []
  | .int i :: ds => (intsD ds).map (i :: ·)
  | _ => none
theorem intsD_map (ns : List Int) : intsD (ns.map D.int) = some ns := by
  induction ns with
  | nil => rfl
  | cons n ns ih => simp [ih]
theorem intsD_rep {K : PySem.W.Frag} {T : Tab} {B : Option Addr} {M : Addr → Prop} {H : Hp} : ∀ {ds : List D} {ns : List Int} {vs : List V}, intsD ds = some ns → Reps K T B M H ds vs → vs = ns.map V.int
  | [], ns, vs, h, r => by
    cases h
    exact r
  | .int i :: ds, ns, _, h, ⟨v, r, e, h1, h2⟩ => by
    cases hh : intsD ds with
    | none => simp [hh] at h
    | some ms =>
      simp [hh] at h
      subst h e
      rw [intsD_rep hh h2, show v = V.int i from h1]
      rfl
  | .non :: _, _, _, h, _ => by cases h
  | .bl _ :: _, _, _, h, _ => by cases h
  | .str _ :: _, _, _, h, _ => by cases h
  | .tup _ :: _, _, _, h, _ => by cases h
  | .lst _ :: _, _, _, h, _ => by cases h
  | .obj _ _ :: _, _, _, h, _ => by cases h
  | .bag :: _, _, _, h, _ => by cases h
  | .cls _ :: _, _, _, h, _ => by cases h
  | .lat _ _ :: _, _, _, h, _ => by cases h
  | .scr _ :: _, _, _, h, _ => by cases h
  | .exn _ _ _ _ :: _, _, _, h, _ => by cases h
@[simp] def fSum : DCB := fun _ ds Q => match ds with
  | [.lst es] => match intsD es with
    | some ns => Q (.v 2 (.int ns.sum))
    | none => False
  | _ => False
theorem cb_sum {K : PySem.W.Frag} {T : Tab} : CBD K T (rSum K) fSum := by
  intro S τ σ H g ds vs QD Q sr r q k
  unfold fSum at q
  split at q
  · rename_i es
    obtain ⟨v, rfl, r0⟩ := r.one'
    obtain ⟨p, us, rfl, e1, e2, rs⟩ := r0
    split at q
    · rename_i ns eb
      have eu := intsD_rep eb rs
      subst eu
      exact ⟨p, ns, rfl, SqL.of e1, k H _ (.v 2 (.int _)) sr.same rfl q⟩
    · exact q.elim
  · exact q.elim
@[simp] def fIsB : DF2 := fun _ d _ d' Q => match d, d' with
  | .bl a, .bl b => Q (.v 2 (.bl (decide (a = b))))
  | _, _ => False
@[simp] def fIsNB : DF2 := fun _ d _ d' Q => match d, d' with
  | .bl a, .bl b => Q (.v 2 (.bl (!decide (a = b))))
  | _, _ => False
theorem r2_isB {K : PySem.W.Frag} {T : Tab} : R2D K T (fun x y H Q => ∃ a b, x = .bl a ∧ y = .bl b ∧ Q (.bl (decide (a = b))) H) fIsB := by
  intro S τ σ H g d g' d' v u QD Q sr r1 r2 q k
  unfold fIsB at q
  split at q
  · exact ⟨_, _, r1, r2, k H (.bl _) (.v 2 (.bl _)) sr.same rfl q⟩
  · exact q.elim
theorem r2_isNB {K : PySem.W.Frag} {T : Tab} : R2D K T (fun x y H Q => ∃ a b, x = .bl a ∧ y = .bl b ∧ Q (.bl (!decide (a = b))) H) fIsNB := by
  intro S τ σ H g d g' d' v u QD Q sr r1 r2 q k
  unfold fIsNB at q
  split at q
  · exact ⟨_, _, r1, r2, k H (.bl _) (.v 2 (.bl _)) sr.same rfl q⟩
  · exact q.elim
end DL
/-! DX7: instances whose making may raise. -/
namespace DL
open PySem PySem.Spec PyProof.Rows L2
def spIX (K : PySem.W.Frag) (T : Tab) (mg : Str → Option Value) (c : Nat) (C : CtrXI) : Sp := fun vs H Q E => ∃ (B : Option Addr) (L : LX) (M : Addr → Prop) (ds : List D) (QD : List D → Prop) (QE : Er → Prop) (x dx : Addr) (us : List V), vs = .ref x :: us ∧ H x = some (.ins (T c).1 dx []) ∧ B ≠ some x ∧ L.a ≠ x ∧ ¬ M x ∧
  BagOk T B L H ∧ (∀ a, M a → Lv H a) ∧ Reps K T B (fun a => B = some a ∨ a = x) H ds us ∧ C ds QD QE ∧
  (∀ H' fs ws dx', Kp (fun a => B = some a ∨ a = x) H H' → BagOk T B L H' → H' x = some (.ins (T c).1 dx' ((T c).2.zip ws)) → Reps K T B (fun a => (M a ∨ B = some a) ∨ a = x) H' fs ws → QD fs → Q .non H') ∧
  ∀ H' er cls d, Kp (fun a => B = some a ∨ a = x) H H' → BagOk T B L H' → ErR K T mg B H' er cls d → QE er → E cls d H'
@[simp] def dMakeX (c : Nat) (C : CtrXI) (dd : List D) (ta : DTA) : DTEx := fun τ Q R => ta τ fun _ ds => C (ds ++ dd) (fun fs => Q (.v 2 (.obj c fs))) R
section
variable {K : PySem.W.Frag} {T : Tab} {mg : Str → Option Value} {S : Sit} {τ : DSt} {σ : L2.St} {H : Hp} {c : Nat} {C : CtrXI} {ds : List D} {vs : List V} {QD : Sl → Prop} {QE : Er → Prop} {Q : VK} {E : XK} {g : Nat}
theorem makeX_of (sr : SR K T S τ σ H) (r : RepsG K T S g H ds vs) (q : C ds (fun fs => QD (.v 2 (.obj c fs))) QE) (k : ∀ H' v sl, Aft K T S H H' → RepSl K T S H H' sl v → QD sl → Q v H') (kx : ∀ H' er cls d, Aft K T S H H' → ErR K T mg S.B H' er cls d → QE er → E cls d H') :
    ∀ x dx, H x = none → H dx = none → dx ≠ x → spIX K T mg c C (.ref x :: vs) (upd (upd H dx (.own x)) x (.ins (T c).1 dx [])) (fun v H2 => v = .non ∧ Q (.ref x) H2) E := by
  intro x dx hx hdx hne
  have a1 := sr.laid (o := .own x) hdx
  have hx1 : upd H dx (.own x) x = none := (upd_ne (Ne.symm hne)).trans hx
  have a2 := (sr.aft a1).laid (o := .ins (T c).1 dx []) hx1
  have a := a1.trans a2
  have s2 := sr.aft a
  have nP : ¬ gset S 2 x := sr.newG (nl hx) 2
  have kk : ∀ {H' : Hp}, Kp (fun a => S.B = some a ∨ a = x) (upd (upd H dx (.own x)) x (.ins (T c).1 dx [])) H' → Kp S.N H H' := fun {H'} kp => by
    have kk := (a.kp.mono (N' := fun a => S.B = some a ∨ a = x) fun _ z => .inl z).trans kp
    exact ⟨fun b o h n => kk.k0 b o h (fun z => Or.elim z n (ne_of_none h hx)), kk.t, kk.z, kk.s⟩
  have rr : Reps K T S.B (fun a => S.B = some a ∨ a = x) (upd (upd H dx (.own x)) x (.ins (T c).1 dx [])) ds vs := Reps.kp a.kp (fun c z => .inl z) ds vs (Reps.new (nl hx) ds vs (Reps.anti (sr.gsub g) ds vs r))
  obtain ⟨L, hL, hb⟩ : ∃ L : LX, L.a ≠ x ∧ ∀ H', BagOk T S.B L H' ↔ BagOk T S.B S.L H' := by
    by_cases hB : S.B = none
    · exact ⟨⟨x + 1⟩, Nat.succ_ne_self x, fun H' => ⟨fun h => ⟨fun b e => (by rw [hB] at e; cases e), h.tb⟩, fun h => ⟨fun b e => (by rw [hB] at e; cases e), h.tb⟩⟩⟩
    · obtain ⟨b, hb⟩ := Option.ne_none_iff_exists'.mp hB
      refine ⟨S.L, fun z => ?_, fun H' => Iff.rfl⟩
      obtain ⟨_, ns, _, _, _, _, _, h2, _⟩ := sr.bag.bg b hb
      rw [z, hx] at h2
      cases h2
  refine ⟨S.B, L, gset S 2, ds, _, QE, x, dx, vs, rfl, upd_same, fun z => nP (.inl (sr.bp x z)), hL, nP, (hb _).mpr s2.bag, s2.mal, rr, q, fun H' fs ws dx2 kp bag e rs q' => ⟨rfl, ?_⟩, fun H' er cls d kp bag e q' => kx H' er cls d ⟨kk kp, (hb _).mp bag⟩ e q'⟩
  exact k H' (.ref x) (.v 2 (.obj c fs)) ⟨kk kp, (hb _).mp bag⟩ ⟨x, dx2, ws, rfl, e, nP, Reps.anti (fun a z => .inl (.inl z)) fs ws rs⟩ q'
end
structure MkrX (P : Program) (w : World) (K : PySem.W.Frag) (T : Tab) (mg : Str → Option Value) (base : Heap) (x : Str) (c k : Nat) (dd : List D) (C : CtrXI) : Prop where
  ex : ∃ (f : Addr) (fd : FuncData) (ps : List Str) (ds : List Value) (dvs : List V), Mk K (T c).1 f ∧ mg x = some (.ref (T c).1) ∧ Binds K fd ps ds ∧ Vals dvs ds ∧ isScs dd dvs ∧ FnOk P w K mg base (L2.CX P w) k f fd ps (spIX K T mg c C)
theorem spI_X {K : PySem.W.Frag} {T : Tab} {mg : Str → Option Value} {c : Nat} {C : CtrXI} {vs : List V} {H : Hp} {Q : VK} {E : XK} (h : spI K T c (fun ds Q => C ds Q fun _ => False) vs H Q E) : spIX K T mg c C vs H Q fun _ _ _ => False := by
  obtain ⟨B, L, M, ds, QD, x, dx, us, h1, h2, h3, h4, h5, h6, h7, h8, h9, h10⟩ := h
  exact ⟨B, L, M, ds, QD, fun _ => False, x, dx, us, h1, h2, h3, h4, h5, h6, h7, h8, h9, h10, fun _ _ _ _ _ _ _ z => z⟩
theorem FnOk.calmI {P : Program} {w : World} {K : PySem.W.Frag} {T : Tab} {mg : Str → Option Value} {base : Heap} {k c : Nat} {f : Addr} {fd : FuncData} {ps : List Str} {C : CtrXI} (F : FnOk P w K mg base (L2.CX P w) k f fd ps (spIX K T mg c C)) : FnOk P w K mg base CX0 k f fd ps (fun vs H Q _ => spIX K T mg c C vs H Q fun _ _ _ => False) := FnOk.calm F
theorem MkrX.calm {P : Program} {w : World} {K : PySem.W.Frag} {T : Tab} {mg : Str → Option Value} {base : Heap} {x : Str} {c k : Nat} {dd : List D} {C : CtrXI} {C' : CtrI} (F : MkrX P w K T mg base x c k dd C) (h : ∀ ds Q, C' ds Q → C ds Q fun _ => False) : Mkr P w K T mg base x c k dd C' := by
  obtain ⟨f, fd, ps, ds, dvs, h1, h2, h3, h4, h5, h6⟩ := F.ex
  refine ⟨f, fd, ps, ds, dvs, h1, h2, h3, h4, h5, (FnOk.calm h6).imp fun vs H Q E z => spI_X (E := E) ?_⟩
  obtain ⟨B, L, M, ds, QD, x, dx, us, g1, g2, g3, g4, g5, g6, g7, g8, g9, g10⟩ := z
  exact ⟨B, L, M, ds, QD, x, dx, us, g1, g2, g3, g4, g5, g6, g7, g8, h ds QD g9, g10⟩
section
variable {X : Cx} {T : Tab} {k c : Nat} {Ci : CtrXI} {dd : List D} {E : XK} {x : Str} {p pos : Pos} {e : Expr} {es : List Expr} {t : DTA}
theorem dx_mk (F : MkrX X.prog X.w X.K T X.mg X.base x c k dd Ci) (hr : Room (k + 1) X.A) (hx : Passes (L2.CX X.prog X.w) X E) (hg : Gl X x) (ha : PA X (e :: es) (UpA X.K T t)) (hdb : (x == ("__debug__" : Str)) = false := by decide)
    (he : starEach (e :: es) X.env = (false, eval e X.env) :: starEach es X.env := by rfl) (hpl : (backTo pos (starEach es X.env)).any (·.1) = false := by rfl) : PE X (.Call (.Name x p) (e :: es) [] pos) (UpEx X.K T ⟨X.mg, E⟩ (dMakeX c Ci dd t)) := by
  obtain ⟨f, fd, ps, ds, dvs, h1, h2, h3, h4, h5, h6⟩ := F.ex
  exact (pe_make h1 h6 hr hg h2 h3 h4 hx ha hdb he hpl).of fun σ H Q ⟨S, τ, QD, QE, sr, h, k, kx⟩ => ⟨S, τ, _, sr, h, fun H1 vs g ds a r q =>
    makeX_of (sr.aft a) (r.append h5.rep) q (fun H' v sl a2 r2 q2 => k H' v sl (a.trans a2) (r2.back a) q2) fun H' er cls d a2 e2 q2 => kx H' er cls d (a.trans a2) e2 q2⟩
end
section
variable {P : Program} {w : World} {K : PySem.W.Frag} {T : Tab} {mg : Str → Option Value} {base : Heap} {x m qual : Str} {params : Arguments} {body : List Stmt} {scope : Scope} {dvs : List V} {kws : List (Str × V)} {f : Addr} {fd : FuncData} {N ps : List Str} {k : Nat}
def PureXI (c n : Nat) (C : CtrXI) (t : DTS) (N : List Str) : Prop := ∀ ds QD QE, C ds QD QE → t { nx := endI c n QD, rt := fun _ => False, er := QE } (startI N c ds)
theorem initx_ok (F : FunD K x qual params body scope dvs kws f fd) (S : FnScope N ps scope) (c : Nat) (C : CtrXI) (t : DTS) (hl : ∀ ds QD QE, C ds QD QE → ds.length + 1 = ps.length)
    (hb : ∀ (cdv : Value) (A : Around) (outer : List Env) (s : Shared) (H : Hp) (E : XK), Room k (A.deeper (envOfC qual scope s.heap.objs.size f cdv)) → PSs (cxOf (L2.CX P w) P w K mg base N qual scope f cdv A outer s H E) body (UpS K T ⟨mg, E⟩ t))
    (hp : PureXI c (T c).2.length C t N) (hc : c ≠ 999 := by decide) : FnOk P w K mg base (L2.CX P w) (k + 1) f fd ps (spIX K T mg c C) := by
  refine F.ok S (fun vs H Q E h => ?_) (fun cdv A outer s H vs Q E hr h => ⟨UpS K T ⟨mg, E⟩ t, hb cdv A outer s H E hr, ?_⟩)
  · obtain ⟨B, L, M, ds, QD, QE, y, dx, us, rfl, _, _, _, _, _, _, r, q, _⟩ := h
    rw [List.length_cons, r.len]; exact hl ds QD QE q
  · obtain ⟨B, L, M, ds, QD, QE, y, dx, us, rfl, ey, nB, nL, nM, bag, hm, r, q, kk, kx⟩ := h
    have kb : ∀ {H' : Hp}, Kp (fun a => B = some a ∨ some y = some a) H H' → Kp (fun a => B = some a ∨ a = y) H H' := fun z => z.mono fun a z => Or.elim z .inl fun z => .inr (Option.some.inj z).symm
    refine ⟨⟨B, L, some y, H, M, fun a => B = some a ∨ a = y, []⟩, startI N c ds, _, sr_startI hc ey nB nL bag hm r, hp ds QD QE q, ⟨fun P' τ' σ' H' sr q' => ?_, fun _ _ _ _ _ z => z.elim, fun _ _ _ _ _ z => z.elim, fun H' v sl kp bag' rr q' => q'.elim, fun _ _ _ _ _ _ _ _ z => z.elim,
      fun H' er cls d kp bag' e q' => kx H' er cls d (kb kp) bag' e q'⟩⟩
    have q' : endI c (T c).2.length QD τ' := q'
    unfold endI at q'
    split at q'
    · rename_i c' fs e0
      obtain ⟨rfl, hn, q'⟩ := q'
      obtain ⟨_, z, dz, ws, e1, e2, e3, rs⟩ := sr.ins 0 c' fs e0
      cases e3
      rw [insO_ins hc, hn, List.take_length] at e2
      refine kk H' fs ws dz (kb sr.kp) sr.bag e2 (Reps.anti (fun a z => ?_) fs ws rs) q'
      rcases z with (z | z) | z
      · exact .inr z
      · exact .inl (sr.bp a z)
      · exact .inl ((sr.xp a (by rw [z])).1)
    · exact q'.elim
theorem mkrx_mk {c : Nat} {Ci : CtrXI} {y : Str} (F : FunD K m qual params body scope [] [] f fd) (hm : mg y = some (.ref (T c).1)) (mk : Mk K (T c).1 f) (ok : FnOk P w K mg base (L2.CX P w) k f fd ps (spIX K T mg c Ci))
    (hb : ∀ (kV doc pm : Value) (an : Option Addr) (cdv ct : Value) (us : List Value), us.length = ps.length → bindArgs (PySem.W.fnOf m qual params body scope .none kV doc pm an cdv ct) ⟨us, []⟩ = pure (ps.zip us)) : MkrX P w K T mg base y c k [] Ci :=
  ⟨f, fd, ps, [], [], mk, hm, F.bindsN hb, .nil, rfl, ok⟩
end
end DL
/-! DLX: loops by what holds ahead of each turn, where a turn may raise. -/
namespace DL
open PySem PySem.Spec PyProof.Rows L2
/-- the ends of a turn: those of the loop but for nx, ct, bk -/
structure TurnOf (E E' : DEnds) : Prop where
  rt : E'.rt = E.rt
  rb : E'.rb = E.rb
  bk : E'.bk = E.nx
  er : E'.er = E.er
theorem for_x {g : Nat} {tg : DTG} {tb : DTS} {E : DEnds} (I : Nat → DSt → Prop) : ∀ (ds : List D) (n : Nat) (τ : DSt),
    (∀ k d τ (E' : DEnds), ds[k]? = some d → TurnOf E E' → (∀ τ', I (n + k + 1) τ' → E'.nx τ' ∧ E'.ct τ') → I (n + k) τ → tg (up g d) d τ (tb E')) → (∀ τ, I (n + ds.length) τ → E.nx τ) → I n τ → forRec g tg tb E ds τ
  | [], n, τ, _, hf, h => hf τ h
  | d :: ds, n, τ, hs, hf, h => by
    have ih : ∀ τ', I (n + 0 + 1) τ' → forRec g tg tb E ds τ' := fun τ' h' => by
      refine for_x I ds (n + 1) τ' (fun k d τ E' e t h3 h5 => hs (k + 1) d τ E' (by simpa using e) t (fun τ' z => h3 τ' ?_) ?_) (fun τ z => hf τ ?_) h'
      · rwa [show n + 1 + k + 1 = n + (k + 1) + 1 by omega]
      · rwa [show n + (k + 1) = n + 1 + k by omega]
      · rwa [show n + (d :: ds).length = n + 1 + ds.length by rw [List.length_cons]; omega]
    exact hs 0 d τ { E with nx := forRec g tg tb E ds, ct := forRec g tg tb E ds, bk := E.nx } rfl ⟨rfl, rfl, rfl, rfl⟩ (fun τ' z => ⟨ih τ' z, ih τ' z⟩) h
theorem for_invX {g : Nat} {tg : DTG} {tb : DTS} {E : DEnds} (I : Nat → DSt → Prop) {ds : List D} {τ : DSt} (h0 : I 0 τ)
    (hs : ∀ k d τ (E' : DEnds), ds[k]? = some d → TurnOf E E' → (∀ τ', I (k + 1) τ' → E'.nx τ' ∧ E'.ct τ') → I k τ → tg (up g d) d τ (tb E')) (hf : ∀ τ, I ds.length τ → E.nx τ) : forRec g tg tb E ds τ :=
  for_x I ds 0 τ (fun k d τ E' e t h3 h5 => hs k d τ E' e t (fun τ' z => h3 τ' (by rwa [Nat.zero_add])) (by rwa [Nat.zero_add] at h5)) (fun τ z => hf τ (by rwa [Nat.zero_add] at z)) h0
theorem for_rngX {g : Nat} {tg : DTG} {tb : DTS} {E : DEnds} (I : Nat → DSt → Prop) {lo : Int} {n : Nat} {τ : DSt} (h0 : I 0 τ)
    (hs : ∀ (k : Nat) τ (E' : DEnds), k < n → TurnOf E E' → (∀ τ', I (k + 1) τ' → E'.nx τ' ∧ E'.ct τ') → I k τ → tg (up g (.int (lo + k))) (.int (lo + k)) τ (tb E')) (hf : ∀ τ, I n τ → E.nx τ) : forRec g tg tb E (rangeL lo n) τ :=
  for_invX I h0 (fun k d τ E' e t h3 h5 => by
    obtain ⟨hk, rfl⟩ := rangeL_at n lo k d e
    exact hs k τ E' hk t h3 h5) fun τ z => hf τ (by rwa [rangeL_len] at z)
end DL
/-! DK1: calls with keywords. -/
namespace DL
open PySem PySem.Spec PyProof.Rows L2
structure FnK (P : Program) (w : World) (K : PySem.W.Frag) (T : Tab) (mg : Str → Option Value) (base : Heap) (x : Str) (k n : Nat) (ks : List Str) (C : Ctr) : Prop where
  ex : ∃ (f : Addr) (fd : FuncData) (ps : List Str), mg x = some (.ref f) ∧ PySem.W.keepIn K (.ref f) = true ∧ KBn K fd ps n ks (fun us ws => us ++ ws) (fun vs zs => vs ++ zs) ∧ FnOk P w K mg base CX0 k f fd ps (spC K T C)
structure FnXK (P : Program) (w : World) (K : PySem.W.Frag) (T : Tab) (mg : Str → Option Value) (base : Heap) (x : Str) (k n : Nat) (ks : List Str) (C : CtrX) : Prop where
  ex : ∃ (f : Addr) (fd : FuncData) (ps : List Str), mg x = some (.ref f) ∧ PySem.W.keepIn K (.ref f) = true ∧ KBn K fd ps n ks (fun us ws => us ++ ws) (fun vs zs => vs ++ zs) ∧ FnOk P w K mg base (L2.CX P w) k f fd ps (spX K T mg C)
theorem FnXK.calm {P : Program} {w : World} {K : PySem.W.Frag} {T : Tab} {mg : Str → Option Value} {base : Heap} {x : Str} {k n : Nat} {ks : List Str} {C : CtrX} {C' : Ctr} (F : FnXK P w K T mg base x k n ks C) (h : ∀ ds Q, C' ds Q → C ds Q fun _ => False) : FnK P w K T mg base x k n ks C' := by
  obtain ⟨f, fd, ps, h1, h2, h3, h6⟩ := F.ex
  refine ⟨f, fd, ps, h1, h2, h3, (FnOk.calm h6).imp fun vs H Q E z => spC_X (E := E) ?_⟩
  obtain ⟨B, L, M, ds, QD, bag, hm, r, q, kk⟩ := z
  exact ⟨B, L, M, ds, QD, bag, hm, r, h ds QD q, kk⟩
@[simp] def dCallK (n m : Nat) (C : Ctr) (ta tk : DTA) : DTE := fun τ Q => ta τ fun _ ds => tk τ fun _ es => ds.length = n ∧ es.length = m ∧ C (ds ++ es) Q
@[simp] def dCallXK (n m : Nat) (C : CtrX) (ta tk : DTA) : DTEx := fun τ Q R => ta τ fun _ ds => tk τ fun _ es => ds.length = n ∧ es.length = m ∧ C (ds ++ es) Q R
section
variable {X : Cx} {T : Tab} {k n : Nat} {ks : List Str} {C : Ctr} {Cq : CtrX} {E : XK} {x : Str} {p pos kpos : Pos} {e : Expr} {es : List Expr} {kws : List Keyword} {te : DTE} {t tk : DTA} {nm : Option Str}
theorem PK.of {t t' : TA} (h : PK X kws t) (w : ∀ σ H Q, t' σ H Q → t σ H Q) : PK X kws t' := ⟨fun pos pins s σ H Q I q => h.run pos pins s σ H Q I (w σ H Q q)⟩
theorem dk_nil : PK X [] (UpA X.K T aNil) := PK.of pk_nil fun σ H Q ⟨S, τ, QD, sr, h, k⟩ => k H [] 2 [] sr.same rfl h
theorem dk_cons (ha : PE X e (UpE X.K T te)) (hr : PK X kws (UpA X.K T t)) : PK X (⟨nm, e, kpos⟩ :: kws) (UpA X.K T (aCons te t)) :=
  PK.of (pk_cons ha hr) fun σ H Q ⟨S, τ, QD, sr, h, k⟩ => ⟨S, τ, _, sr, h, fun H1 v x a1 r1 q1 => ⟨S, τ, _, sr.aft a1, q1, fun H2 vs g ds a2 r2 q2 => by
    have s1 := sr.aft a1
    have s2 := s1.aft a2
    refine k H2 (v :: vs) _ (x.d :: ds) (a1.trans a2) ⟨v, vs, rfl, ?_, ?_⟩ q2
    · exact RepG.le s2 (Nat.min_le_left _ _) (s1.rep a2.kp (RepG.up (r1.g sr)))
    · exact RepsG.le s2 (Nat.min_le_right _ _) r2⟩⟩
/-- f(e, .., k = v, ..) -/
theorem de_fnK (F : FnK X.prog X.w X.K T X.mg X.base x k n ks C) (hr : Room k X.A) (hg : Gl X x) (ha : PA X (e :: es) (UpA X.K T t)) (hkw : PK X kws (UpA X.K T tk)) (hall : (backToKw pos (keywordEach kws X.env)).all (·.1.isSome) = true := by rfl) (hks : (backToKw pos (keywordEach kws X.env)).filterMap (·.1) = ks := by rfl)
    (hdb : (x == ("__debug__" : Str)) = false := by decide) (he : starEach (e :: es) X.env = (false, eval e X.env) :: starEach es X.env := by rfl)
    (hpl : ((backTo pos (starEach (e :: es) X.env)).any (·.1) || (backToKw pos (keywordEach kws X.env)).any (·.1.isNone)) = false := by rfl) :
    PE X (.Call (.Name x p) (e :: es) kws pos) (UpE X.K T (dCallK n ks.length C t tk)) := by
  obtain ⟨f, fd, ps, h1, h2, h3, h4⟩ := F.ex
  exact (pe_callN h4 hr hg h1 h2 h3 pass0' ha hkw hall hks hdb he hpl).of fun σ H Q ⟨S, τ, QD, sr, h, k⟩ => ⟨S, τ, _, sr, h, fun H1 vs g ds a r q => ⟨S, τ, _, sr.aft a, q, fun H2 zs g2 es2 a2 r2 ⟨l1, l2, q2⟩ => by
    have s1 := sr.aft a
    have s2 := s1.aft a2
    refine ⟨r.len.trans l1, r2.len.trans l2, ?_⟩
    exact spC_of (g := 0) (E := fun _ _ _ => True) s2 ((RepsG.le s2 (Nat.zero_le _) (s1.reps a2.kp r)).append (RepsG.le s2 (Nat.zero_le _) r2)) q2 fun H' v sl a3 r3 q3 => k H' v sl (a.trans (a2.trans a3)) (r3.back (a.trans a2)) q3⟩⟩
theorem dx_fnK (F : FnXK X.prog X.w X.K T X.mg X.base x k n ks Cq) (hr : Room k X.A) (hx : Passes (L2.CX X.prog X.w) X E) (hg : Gl X x) (ha : PA X (e :: es) (UpA X.K T t)) (hkw : PK X kws (UpA X.K T tk)) (hall : (backToKw pos (keywordEach kws X.env)).all (·.1.isSome) = true := by rfl) (hks : (backToKw pos (keywordEach kws X.env)).filterMap (·.1) = ks := by rfl)
    (hdb : (x == ("__debug__" : Str)) = false := by decide) (he : starEach (e :: es) X.env = (false, eval e X.env) :: starEach es X.env := by rfl)
    (hpl : ((backTo pos (starEach (e :: es) X.env)).any (·.1) || (backToKw pos (keywordEach kws X.env)).any (·.1.isNone)) = false := by rfl) :
    PE X (.Call (.Name x p) (e :: es) kws pos) (UpEx X.K T ⟨X.mg, E⟩ (dCallXK n ks.length Cq t tk)) := by
  obtain ⟨f, fd, ps, h1, h2, h3, h4⟩ := F.ex
  exact (pe_callN h4 hr hg h1 h2 h3 hx ha hkw hall hks hdb he hpl).of fun σ H Q ⟨S, τ, QD, QE, sr, h, k, kx⟩ => ⟨S, τ, _, sr, h, fun H1 vs g ds a r q => ⟨S, τ, _, sr.aft a, q, fun H2 zs g2 es2 a2 r2 ⟨l1, l2, q2⟩ => by
    have s1 := sr.aft a
    have s2 := s1.aft a2
    refine ⟨r.len.trans l1, r2.len.trans l2, ?_⟩
    exact spX_of (g := 0) s2 ((RepsG.le s2 (Nat.zero_le _) (s1.reps a2.kp r)).append (RepsG.le s2 (Nat.zero_le _) r2)) q2 (fun H' v sl a3 r3 q3 => k H' v sl (a.trans (a2.trans a3)) (r3.back (a.trans a2)) q3)
      fun H' er cls d a3 e3 q3 => kx H' er cls d (a.trans (a2.trans a3)) e3 q3⟩⟩
end
/-! ### from a def with keyword-only parameters: all of them written -/
section
variable {P : Program} {w : World} {K : PySem.W.Frag} {T : Tab} {mg : Str → Option Value} {base : Heap} {x qual : Str} {params : Arguments} {body : List Stmt} {scope : Scope} {kws : List (Str × V)} {f : Addr} {fd : FuncData} {ps ks : List Str} {k : Nat} {C : Ctr} {Cq : CtrX} {dd : List D}
theorem kb_mk (F : FunD K x qual params body scope [] kws f fd) (n : Nat)
    (h : ∀ (kV doc pm : Value) (an : Option Addr) (cdv ct : Value) (us ws : List Value), us.length = n → ws.length = ks.length → bindArgs (PySem.W.fnOf x qual params body scope .none kV doc pm an cdv ct) ⟨us, ks.zip ws⟩ = pure (ps.zip (us ++ ws))) : KBn K fd ps n ks (fun us ws => us ++ ws) (fun vs zs => vs ++ zs) := by
  obtain ⟨oc, od, dV, kV, doc, pm, an, cdv, ct, osl, rfl, lk, hcd, hD, hK⟩ := F.ex
  rcases hD with ⟨_, rfl⟩ | ⟨e, _⟩
  · exact ⟨fun s us ws _ l1 l2 => .of_eq (h kV doc pm an cdv ct us ws l1 l2), fun r1 r2 => r1.append r2⟩
  · exact absurd rfl e
theorem fnk_mk (F : FunD K x qual params body scope [] kws f fd) (hm : mg x = some (.ref f)) (n : Nat) (ok : FnOk P w K mg base CX0 k f fd ps (spC K T C))
    (h : ∀ (kV doc pm : Value) (an : Option Addr) (cdv ct : Value) (us ws : List Value), us.length = n → ws.length = ks.length → bindArgs (PySem.W.fnOf x qual params body scope .none kV doc pm an cdv ct) ⟨us, ks.zip ws⟩ = pure (ps.zip (us ++ ws))) : FnK P w K T mg base x k n ks C :=
  ⟨f, fd, ps, hm, F.kp, kb_mk F n h, ok⟩
theorem fnxk_mk (F : FunD K x qual params body scope [] kws f fd) (hm : mg x = some (.ref f)) (n : Nat) (ok : FnOk P w K mg base (L2.CX P w) k f fd ps (spX K T mg Cq))
    (h : ∀ (kV doc pm : Value) (an : Option Addr) (cdv ct : Value) (us ws : List Value), us.length = n → ws.length = ks.length → bindArgs (PySem.W.fnOf x qual params body scope .none kV doc pm an cdv ct) ⟨us, ks.zip ws⟩ = pure (ps.zip (us ++ ws))) : FnXK P w K T mg base x k n ks Cq :=
  ⟨f, fd, ps, hm, F.kp, kb_mk F n h, ok⟩
/-- a loud def with keyword-only defaults alone, called without them -/
theorem fnx_mkK (F : FunD K x qual params body scope [] kws f fd) (hm : mg x = some (.ref f)) (n : Nat) (hk : kws ≠ []) (hn : n + kws.length = ps.length) (hdd : isScs dd (kws.map (·.2))) (ok : FnOk P w K mg base (L2.CX P w) k f fd ps (spX K T mg Cq))
    (h : ∀ (D : Addr) (doc pm : Value) (an : Option Addr) (cdv ct : Value) (us ks : List Value), us.length = n → ks.length = kws.length →
      KwChain D ((kws.map (·.1)).zip ks) (bindArgs (PySem.W.fnOf x qual params body scope .none (.ref D) doc pm an cdv ct) ⟨us, []⟩) (ps.zip (us ++ ks))) : FnX P w K T mg base x k dd Cq := by
  obtain ⟨ds, h1, h2⟩ := F.binds0 n hk hn h
  exact ⟨f, fd, ps, ds, _, hm, F.kp, h2, h1, hdd, ok⟩
end
end DL
/-! DK2: xs.insert(i, y) on a list of this frame's own. -/
namespace DL
open PySem PySem.Spec PyProof.Rows L2
@[simp] def dIns (i : Nat) (ti te : DTE) : DTS := fun D τ => match τ[i]? with
  | some (.own ds) => ti τ fun si => match si.d with
    | .int k => te τ fun sl => (Nat.ble 2 sl.g || sl.d.imm) = true ∧ ds.length < 1000000 ∧ 0 ≤ k ∧ k < 4611686018427387904 ∧ D.nx (τ.set i (.own (ds.take k.toNat ++ [sl.d] ++ ds.drop k.toNat)))
    | _ => False
  | _ => False
section
variable {X : Cx} {T : Tab} {ek : EK} {ti te : DTE} {i : Nat}
theorem ds_ins {st : Stmt} (h : PS X st (tDrop (tBM X.K "list" (fun x vs H Q => ∃ (l : Addr) (xs : List V) (i : Int) (y : V), x = .ref l ∧ vs = [.int i, y] ∧ H l = some (.lst xs) ∧ xs.length < sizeLine ∧ 0 ≤ i ∧ i < 2 ^ 63 ∧ Q .non (upd H l (.lst (xs.take i.toNat ++ [y] ++ xs.drop i.toNat)))) (tVar i) (tCons (UpE X.K T ti) (tCons (UpE X.K T te) tNil))))) : PS X st (UpS X.K T ek (dIns i ti te)) :=
  h.of fun D σ H ⟨S, τ, DD, sr, h, o⟩ => by
    unfold dIns at h
    split at h
    · rename_i ds et
      obtain ⟨p, vs, e1, e2, e3, e4, e5, rs⟩ := sr.own i ds et
      refine ⟨.ref p, e1, .inl ⟨rfl, _, SqL.of e2⟩, S, τ, _, sr, h, fun H1 w1 s1 a1 r1 q => ?_⟩
      have sr1 := sr.aft a1
      split at q
      · rename_i k ek
        have rk := r1.g sr
        rw [ek] at rk
        have rk : w1 = .int k := rk
        subst rk
        refine ⟨S, τ, _, sr1, q, fun H2 w s2 a2 r2 q => ?_⟩
        have a := a1.trans a2
        have sr2 := sr.aft a
        obtain ⟨q1, q2, q4, q5, q3⟩ := q
        have f2 := a.kp.k p _ e2 e4
        have rd := rd_of q1 (r2.g sr1)
        have rr := sr.reps a.kp rs
        obtain ⟨s3, k3⟩ := sr2.put (us := vs.take k.toNat ++ [w] ++ vs.drop k.toNat) et e1 (Reps.append (Reps.append (rr.take _) (Reps.one rd)) (rr.drop _))
        exact ⟨p, vs, k, w, rfl, rfl, f2, by rw [rs.len]; exact Nat.lt_of_lt_of_le q2 (lim_le' (Nat.le_refl _)), q4, by omega, o.nx S.P _ _ _ s3 q3⟩
      · exact q.elim
    · exact h.elim
end
end DL
/-! DK3: defs that hand back parts of what they are given. -/
namespace DL
open PySem PySem.Spec PyProof.Rows L2
def spC2 (K : PySem.W.Frag) (T : Tab) (C : Ctr) : Sp := fun vs H Q _ => ∃ (B : Option Addr) (L : LX) (M : Addr → Prop) (ds : List D) (QD : Sl → Prop), BagOk T B L H ∧ (∀ a, M a → Lv H a) ∧ Reps K T B (fun a => B = some a ∨ M a) H ds vs ∧ C ds QD ∧
  ∀ H' v sl, Kp (fun a => B = some a) H H' → BagOk T B L H' → RepR K T B M H H' sl v → QD sl → Q v H'
theorem spC2_of {K : PySem.W.Frag} {T : Tab} {S : Sit} {τ : DSt} {σ : L2.St} {H : Hp} {C : Ctr} {ds : List D} {vs : List V} {QD : Sl → Prop} {Q : VK} {E : XK} {g : Nat} (sr : SR K T S τ σ H) (h2 : 2 ≤ g) (r : RepsG K T S g H ds vs) (q : C ds QD) (k : ∀ H' v sl, Aft K T S H H' → RepSl K T S H H' sl v → QD sl → Q v H') : spC2 K T C vs H Q E := by
  match g, h2, r with
  | g + 2, _, r =>
    exact ⟨S.B, S.L, gset S 2, ds, QD, sr.bag, sr.mal, Reps.anti (fun a z => z.elim (fun z => .inl (sr.bp a z)) fun z => z) ds vs r, q, fun H' v sl kp bag rr q' => k H' v sl ⟨kp, bag⟩ (RepR.sl sr rr) q'⟩
@[simp] def startD2 (N : List Str) (ds : List D) : DSt := ds.map (fun d => Sl.v 2 d) ++ List.replicate (N.length - ds.length) .un
theorem sr_start2 {K : PySem.W.Frag} {T : Tab} {B : Option Addr} {L : LX} {M : Addr → Prop} {H : Hp} {N : List Str} {ds : List D} {vs : List V} (bag : BagOk T B L H) (hm : ∀ a, M a → Lv H a) (r : Reps K T B (fun a => B = some a ∨ M a) H ds vs) :
    SR K T ⟨B, L, none, H, M, fun a => B = some a, []⟩ (startD2 N ds) (start N vs) H := by
  have hb : ∀ a, B = some a → Lv H a := fun a e => by
    obtain ⟨_, ns, _, _, _, _, h1, _⟩ := bag.bg a e
    exact Lv.of h1
  have at_ : ∀ {i : Nat} {s : Sl}, (startD2 N ds)[i]? = some s → (∃ d, ds[i]? = some d ∧ s = .v 2 d) ∨ s = .un := fun {i s} e => by
    unfold startD2 at e
    rcases Nat.lt_or_ge i ds.length with h | h
    · rw [List.getElem?_append_left (by rw [List.length_map]; exact h), List.getElem?_map, List.getElem?_eq_getElem h] at e
      cases e
      exact .inl ⟨_, List.getElem?_eq_getElem h, rfl⟩
    · rw [List.getElem?_append_right (by rw [List.length_map]; exact h)] at e
      obtain ⟨_, e⟩ := List.getElem?_eq_some_iff.mp e
      rw [List.getElem_replicate] at e
      exact .inr e.symm
  refine ⟨?_, fun a z => z, hb, hm, Kp.refl, fun a z => (by cases z), fun a z q => absurd z q, hb, bag, fun b e z => ?_, fun i g d e => ?_, fun i es e => ?_, fun i c es e => ?_, fun x hx => (by cases hx), fun i j es fs p e => ?_⟩
  · unfold startD2 L2.start
    rw [List.length_append, List.length_append, List.length_map, List.length_map, List.length_replicate, List.length_replicate, r.len]
  · obtain ⟨h1, _⟩ := bag.bg b e
    have z : B = some L.a := z
    have e : B = some b := e
    rw [e] at z
    exact h1 (Option.some.inj z)
  · rcases at_ e with ⟨d', e1, e2⟩ | e2
    · cases e2
      obtain ⟨v, h1, h2⟩ := r.get e1
      refine ⟨by decide, v, ?_, h2⟩
      unfold L2.start
      rw [List.getElem?_append_left (by rw [List.length_map]; exact (List.getElem?_eq_some_iff.mp h1).1), List.getElem?_map, h1] <;> rfl
    · cases e2
  · rcases at_ e with ⟨d', e1, e2⟩ | e2 <;> cases e2
  · rcases at_ e with ⟨d', e1, e2⟩ | e2 <;> cases e2
  · rcases at_ e with ⟨d', e1, e2⟩ | e2 <;> cases e2
section
variable {P : Program} {w : World} {K : PySem.W.Frag} {T : Tab} {mg : Str → Option Value} {base : Heap} {x qual : Str} {params : Arguments} {body : List Stmt} {scope : Scope} {dvs : List V} {kws : List (Str × V)} {f : Addr} {fd : FuncData} {N ps : List Str} {k : Nat}
theorem fn_ok2 (F : FunD K x qual params body scope dvs kws f fd) (S : FnScope N ps scope) (C : Ctr) (t : DTS) (hl : ∀ ds QD, C ds QD → ds.length = ps.length)
    (hb : ∀ (cdv : Value) (A : Around) (outer : List Env) (s : Shared) (H : Hp) (E : XK), Room k (A.deeper (envOfC qual scope s.heap.objs.size f cdv)) → PSs (cxOf CX0 P w K mg base N qual scope f cdv A outer s H E).nox body (UpS K T ⟨mg, E⟩ t))
    (hp : ∀ ds QD, C ds QD → t { nx := fun _ => QD (.v 2 .non), rt := QD } (startD2 N ds)) : FnOk P w K mg base CX0 (k + 1) f fd ps (spC2 K T C) := by
  refine F.ok S (fun vs H Q E h => ?_) (fun cdv A outer s H vs Q E hr h => ⟨UpS K T ⟨mg, E⟩ t, (hb cdv A outer s H E hr).nox, ?_⟩)
  · obtain ⟨B, L, M, ds, QD, _, _, r, q, _⟩ := h
    rw [r.len]; exact hl ds QD q
  · obtain ⟨B, L, M, ds, QD, bag, hm, r, q, kk⟩ := h
    have kb : ∀ {H' : Hp}, Kp (fun a => B = some a ∨ none = some a) H H' → Kp (fun a => B = some a) H H' := fun z => z.mono fun _ z => Or.elim z (fun z => z) (fun z => by cases z)
    refine ⟨⟨B, L, none, H, M, fun a => B = some a, []⟩, startD2 N ds, _, sr_start2 bag hm r, hp ds QD q, ⟨fun P' τ' σ' H' sr q' => kk H' .non (.v 2 .non) (kb sr.kp) sr.bag rfl q', fun _ _ _ _ _ z => z.elim, fun _ _ _ _ _ z => z.elim, fun H' v sl kp bag' rr q' => kk H' v sl (kb kp) bag' rr q', fun _ _ _ _ _ _ _ _ z => z.elim, fun _ _ _ _ _ _ _ z => z.elim⟩⟩
end
structure Fn2 (P : Program) (w : World) (K : PySem.W.Frag) (T : Tab) (mg : Str → Option Value) (base : Heap) (x : Str) (k : Nat) (C : Ctr) : Prop where
  ex : ∃ (f : Addr) (fd : FuncData) (ps : List Str), mg x = some (.ref f) ∧ PySem.W.keepIn K (.ref f) = true ∧ Binds K fd ps [] ∧ FnOk P w K mg base CX0 k f fd ps (spC2 K T C)
theorem fn2_mk {P : Program} {w : World} {K : PySem.W.Frag} {T : Tab} {mg : Str → Option Value} {base : Heap} {x qual : Str} {params : Arguments} {body : List Stmt} {scope : Scope} {f : Addr} {fd : FuncData} {ps : List Str} {k : Nat} {C : Ctr}
    (F : FunD K x qual params body scope [] [] f fd) (hm : mg x = some (.ref f)) (ok : FnOk P w K mg base CX0 k f fd ps (spC2 K T C))
    (hb : ∀ (kV doc pm : Value) (an : Option Addr) (cdv ct : Value) (us : List Value), us.length = ps.length → bindArgs (PySem.W.fnOf x qual params body scope .none kV doc pm an cdv ct) ⟨us, []⟩ = pure (ps.zip us)) : Fn2 P w K T mg base x k C :=
  ⟨f, fd, ps, hm, F.kp, F.bindsN hb, ok⟩
/-- the arguments keep what they are, whoever goes on -/
@[simp] def dCall2 (C : Ctr) (ta : DTA) : DTE := fun τ Q => ta τ fun g ds => 2 ≤ g ∧ C ds Q
theorem de_fn2 {X : Cx} {T : Tab} {x : Str} {k : Nat} {C : Ctr} {p pos : Pos} {e : Expr} {es : List Expr} {t : DTA} (F : Fn2 X.prog X.w X.K T X.mg X.base x k C) (hr : Room k X.A) (hg : Gl X x) (ha : PA X (e :: es) (UpA X.K T t)) (hdb : (x == ("__debug__" : Str)) = false := by decide) (he : starEach (e :: es) X.env = (false, eval e X.env) :: starEach es X.env := by rfl)
    (hpl : (backTo pos (starEach es X.env)).any (·.1) = false := by rfl) : PE X (.Call (.Name x p) (e :: es) [] pos) (UpE X.K T (dCall2 C t)) := by
  obtain ⟨f, fd, ps, h1, h2, h3, h4⟩ := F.ex
  exact (pe_call h4 hr hg h1 h2 h3 .nil pass0' ha hdb he hpl).of fun σ H Q ⟨S, τ, QD, sr, h, k⟩ => ⟨S, τ, _, sr, h, fun H1 vs g ds a r ⟨h2, q⟩ => by
    show spC2 X.K T C (vs ++ []) H1 Q _
    rw [List.append_nil]
    exact spC2_of (E := fun _ _ _ => True) (sr.aft a) h2 r q fun H' v sl a2 r2 q2 => k H' v sl (a.trans a2) (r2.back a) q2⟩
end DL
/-! DK4: long displays of written data. -/
namespace DL
open PySem PySem.Spec PyProof.Rows L2
def CE (te : DTE) (d : D) : Prop := ∀ τ Q, te τ Q = Q (.v 2 d)
def CA (ta : DTA) (ds : List D) : Prop := ∀ τ Q, ta τ Q = Q 2 ds
theorem ce_k {d : D} : CE (dK d) d := fun _ _ => rfl
theorem ce_neg {i : Int} : CE (dNeg (dK (.int i))) (.int (-i)) := fun _ _ => rfl
theorem ce_tup {ta : DTA} {ds : List D} (h : CA ta ds) (hl : Nat.ble ds.length 1000000 = true := by rfl) : CE (dTup ta) (.tup ds) := fun τ Q => by
  unfold dTup
  rw [h, hl]
theorem ca_nil : CA aNil [] := fun _ _ => rfl
theorem ca_cons {te : DTE} {ta : DTA} {d : D} {ds : List D} (h1 : CE te d) (h2 : CA ta ds) : CA (aCons te ta) (d :: ds) := fun τ Q => by
  unfold aCons
  rw [h1, h2]
  rfl
theorem lst_c {ta : DTA} {ds : List D} (h : CA ta ds) (τ : DSt) (Q : Sl → Prop) (hl : Nat.ble ds.length 1000000 = true := by rfl) : dLst ta τ Q = Q (.own ds) := by
  unfold dLst
  rw [h, hl]
  rfl
theorem cat_c {ta : DTA} {ds es : List D} {i : Nat} (h : CA ta ds) {τ : DSt} {Q : Sl → Prop} (e : τ[i]? = some (.own es)) (hi : immAll es = true) (hl : es.length + ds.length ≤ 1000000) (hl2 : Nat.ble ds.length 1000000 = true := by rfl) (q : Q (.own (es ++ ds))) : dOp fAdd (dVar i) (dLst ta) τ Q := by
  simp only [dOp, dVar, e]
  rw [lst_c h _ _ hl2]
  simp [hi, hl, q]
/-! ### x not in (..), scalars -/
@[simp] def fNotInF : DF2 := fun _ d _ d' Q => match elems d' with
  | some ds => match scV d with
    | some v => match scs ds with
      | some vs => Q (.v 2 (.bl (!L2.inV v vs)))
      | none => False
    | none => False
  | none => False
theorem r2_notInF {K : PySem.W.Frag} {T : Tab} : R2D K T (L2.rIn K true) fNotInF := by
  intro S τ σ H g d g' d' v u QD Q sr r1 r2 q k
  unfold fNotInF at q
  split at q
  · rename_i ds hd
    split at q
    · rename_i x hx
      split at q
      · rename_i xs hxs
        obtain ⟨p, vs, rfl, hq, rs⟩ := Rep.el r2 hd
        obtain ⟨rfl, f1⟩ := scV_rep hx r1
        obtain ⟨rfl, f2⟩ := scs_rep hxs rs
        exact ⟨p, _, rfl, hq, f1, f2, k H (.bl (!L2.inV _ _)) (.v 2 (.bl (!L2.inV _ _))) sr.same rfl q⟩
      · exact q.elim
    · exact q.elim
  · exact q.elim
end DL
/-! DLT: a head for laws whose frames make lambdas: tables of code objects. -/
namespace DL
open PySem PySem.Spec PyProof.Rows L2
theorem isTab_ok {o : Option Obj} (h : isTab o = true) : o = some { cls := .none, data := .fields #[] } := by
  unfold isTab at h
  split at h
  · rename_i vs sl
    obtain ⟨h1, h2⟩ := Bool.and_eq_true_iff.mp h
    rw [Array.isEmpty_iff.mp h1, Array.isEmpty_iff.mp h2]
  · cases h
theorem look_filter {β : Type} (f : Addr → Bool) (a : Addr) : ∀ l : List (Addr × β), (l.filter fun p => f p.1).lookup a = if f a = true then l.lookup a else none
  | [] => by cases f a <;> rfl
  | (b, o) :: r => by
    have ih := look_filter f a r
    rw [List.filter_cons]
    by_cases hb : f b = true
    · rw [if_pos hb, List.lookup_cons, List.lookup_cons]
      by_cases e : (a == b) = true
      · rw [e, beq_iff_eq.mp e, if_pos hb]
      · rw [Bool.not_eq_true] at e
        rw [e]
        exact ih
    · rw [if_neg hb, ih, List.lookup_cons]
      by_cases e : (a == b) = true
      · rw [beq_iff_eq.mp e, if_neg hb, if_neg hb]
      · rw [Bool.not_eq_true] at e
        rw [e]
theorem hid_look (xs : List Str) (K : PySem.W.Frag) (a : Addr) : (hid xs K).lookup a = if (!(xs.map fun x => (tabP K x).2).contains a) = true then K.lookup a else none := look_filter (fun a => !(xs.map fun x => (tabP K x).2).contains a) a K
theorem hid_in {xs : List Str} {K : PySem.W.Frag} {h : Heap} (X : K.In h) : (hid xs K).In h := fun a o e => by
  rw [hid_look] at e
  split at e
  · exact X a o e
  · cases e
section
variable {xs : List Str} {K : PySem.W.Frag} {h : Heap} {x : Str}
theorem tabP_hid (t : tabB xs K = true) (hx : x ∈ xs) : tabP (hid xs K) x = tabP K x ∧ PySem.W.tabIn (hid xs K) x = some (tabP (hid xs K) x) := by
  have h1 := List.all_eq_true.mp t x hx
  have h2 := of_decide_eq_true (Bool.and_eq_true_iff.mp (Bool.and_eq_true_iff.mp h1).2).1
  have e : tabP (hid xs K) x = tabP K x := by
    unfold tabP at h2 ⊢
    rw [h2]
  exact ⟨e, by rw [e]; exact h2⟩
theorem tab_get (t : tabB xs K = true) (X : K.In h) (hx : x ∈ xs) : h.get? (tabP (hid xs K) x).2 = some { cls := .none, data := .fields #[] } := by
  have h1 := List.all_eq_true.mp t x hx
  rw [(tabP_hid t hx).1]
  exact X _ _ (isTab_ok (Bool.and_eq_true_iff.mp h1).1)
theorem tab_no (t : tabB xs K = true) (hx : x ∈ xs) : (hid xs K).lookup (tabP (hid xs K) x).2 = none := by
  rw [(tabP_hid t hx).1, hid_look, if_neg]
  intro z
  rw [Bool.not_eq_true'] at z
  have : (xs.map fun x => (tabP K x).2).contains (tabP K x).2 = true := List.contains_iff_mem.mpr (List.mem_map.mpr ⟨x, hx, rfl⟩)
  rw [this] at z
  cases z
theorem tab_hd (t : tabB xs K = true) (X : K.In h) (hx : x ∈ xs) : PySem.W.CodeHd h (tabP (hid xs K) x).1 (tabP (hid xs K) x).2 := by
  have h1 := List.all_eq_true.mp t x hx
  rw [(tabP_hid t hx).1]
  exact PySem.W.codeHd_of_K (hid_in X) (Bool.and_eq_true_iff.mp (Bool.and_eq_true_iff.mp h1).2).2
end
/-- a frame's table -/
structure TabF (T : Tab) (mg : Str → Option Value) (base : Heap) (fd : FuncData) (q : Str) : Prop where
  ex : ∃ c P, LamX.TabB base mg c P ∧ fd.code = .ref c ∧ (P, q) ∈ tabsT T ∧ ∀ p ∈ tabsT T, p.1 = P → p.2 = q
theorem tab_code {K : PySem.W.Frag} {h : Heap} {mg : Str → Option Value} {x : Str} {f : Addr} {fd : FuncData} {oc : Value} {od : Option Addr} {osl : Array (Option Value)} {cp : Addr × Addr} (X : K.In h) (G : h.Ns mainGlobals mg) (ht : PySem.W.tabIn K x = some cp) (hm : mg x = some (.ref f)) (lk : K.lookup f = some ⟨oc, od, .func fd, osl⟩) : fd.code = .ref cp.1 := by
  unfold PySem.W.tabIn at ht
  split at ht
  · rename_i f' q
    have e := PySem.W.mg_of X G q
    rw [hm] at e
    cases e
    rw [lk] at ht
    dsimp only at ht
    split at ht
    · rename_i c qc
      split at ht
      · split at ht
        · cases ht
          exact qc
        · cases ht
      · cases ht
    · cases ht
  · cases ht
theorem tabF_of {K : PySem.W.Frag} {T : Tab} {h base : Heap} {mg : Str → Option Value} {x x2 qual q : Str} {f : Addr} {fd : FuncData} {params : Arguments} {body : List Stmt} {scope : Scope} {dvs : List V} {kws : List (Str × V)} (X : K.In h) (G : h.Ns mainGlobals mg) (ht : PySem.W.tabIn K x = some (tabP K x)) (hm : mg x = some (.ref f)) (F : FunD K x2 qual params body scope dvs kws f fd)
    (tb : LamX.TabB base mg (tabP K x).1 (tabP K x).2) (h1 : ((tabP K x).2, q) ∈ tabsT T) (h2 : ∀ p ∈ tabsT T, p.1 = (tabP K x).2 → p.2 = q) : TabF T mg base fd q := by
  obtain ⟨oc, od, dV, kV, doc, pm, an, cdv, ct, osl, rfl, lk, _⟩ := F.ex
  exact ⟨_, _, tb, tab_code X G ht hm lk, h1, h2⟩
theorem lamT_of {X : Cx} {T : Tab} {fd : FuncData} {q : Str} (tf : TabF T X.mg X.base fd q) (hc : fd.code = X.env.code) (hq : X.env.qual ++ "<lambda>" = q := by rfl) : LamT X T := by
  obtain ⟨c, P, h1, h2, h3, h4⟩ := tf.ex
  subst hq
  exact ⟨c, P, h1, by rw [← hc, h2], h3, h4⟩
/-! ### the classes of errors -/
theorem tOex_ok {K : PySem.W.Frag} {x : Str} (e : tOex x K = true) : OexC K (He.ga K x) := by
  obtain ⟨q, e⟩ := Bool.and_eq_true_iff.mp e
  obtain ⟨h1, e⟩ := Bool.and_eq_true_iff.mp e
  obtain ⟨h2, e⟩ := Bool.and_eq_true_iff.mp e
  obtain ⟨h3, h4⟩ := Bool.and_eq_true_iff.mp e
  refine ⟨?_, He.eqO_ok h1, of_decide_eq_true h2, of_decide_eq_true h3, h4⟩
  split at q
  · rename_i dd cd sl ho
    split at q
    · rename_i C' bm k0 k1 k2 k3 n k5 hm hs
      simp only [Bool.and_eq_true, beq_iff_eq, Bool.not_eq_true'] at q
      obtain ⟨hC, rfl, hdel, hdc, ht⟩ := q
      obtain ⟨nm, bs, mro, ns, qn, hd, sn, sub, ab, col, del⟩ := cd
      dsimp only at hm hdel hdc
      subst hm hdel hdc
      have hsl : sl = #[k0, k1, k2, k3, some (.builtin "ValueError.__new__"), k5] := by
        obtain ⟨l⟩ := sl
        simp only at hs
        rw [hs]
      subst hsl
      rw [hC] at ho
      exact ⟨nm, qn, ns, bs, bm, sn, sub, ab, col, dd, k0, k1, k2, k3, k5, ho, ht⟩
    · cases q
  · cases q
theorem tErr_ok {K : PySem.W.Frag} {x : Str} (e : tErr x K = true) : XfC K (He.ga K x) ∧ (∀ n ∈ errNames, PySem.W.findIn K (.ref (He.ga K x)) n = some none) ∧ PySem.W.exmOne K (.ref (He.ga K x)) (.ref (He.ga K "SpanError")) = some true := by
  obtain ⟨h1, e⟩ := Bool.and_eq_true_iff.mp e
  obtain ⟨h2, h3⟩ := Bool.and_eq_true_iff.mp e
  exact ⟨xfB_ok h1, fun n hn => He.eqO_ok (List.all_eq_true.mp h2 n hn), of_decide_eq_true h3⟩
theorem errK_of {K : PySem.W.Frag} {h : Heap} {mg : Str → Option Value} (X : K.In h) (G : h.Ns mainGlobals mg) (hs : (He.Fa.glo "SpanError").ok K = true) (e : tErrs K = true) : ErrK K mg (He.ga K "SpanError") := by
  refine ⟨He.glo_ok X G hs, fun x ps C hx hm => ?_⟩
  rcases Bool.or_eq_true_iff.mp (List.all_eq_true.mp e _ hx) with h0 | h0
  · have e0 := He.free_ok X G (x := x) h0
    rw [hm] at e0
    cases e0
  · obtain ⟨h1, h2⟩ := Bool.and_eq_true_iff.mp h0
    have e2 := He.glo_ok X G (x := x) h1
    rw [hm] at e2
    cases e2
    exact tErr_ok h2
/-! ### the hook -/
end DL
/-! DLD: _law_told(lambda x=0: ..): a lambda whose one parameter has a default and is not read. -/
namespace DL
open PySem PySem.Spec PyProof.Rows L2 HotX L2H LamX
/-- names of the lambda: own ones that the maker does not know, captured ones, globals -/
structure LamD (N : List Str) (sc scope : Scope) : Prop where
  kind : scope.kind = .function
  co : scope.isCoroutine = false
  gen : scope.isGenerator = false
  noc : ∀ y ∈ scope.names, y.2 ≠ .cell
  loc : ∀ y ∈ scope.names, y.2 = .local → y.1 ∉ N
  free : ∀ y ∈ scope.names, y.2 = .free → sc.names.lookup y.1 = some .cell ∨ sc.names.lookup y.1 = some .free
def lamDB (N : List Str) (sc scope : Scope) : Bool :=
  decide (scope.kind = .function) && (!scope.isCoroutine && (!scope.isGenerator && scope.names.all fun y => match y.2 with
    | .cell => false
    | .local => decide (y.1 ∉ N)
    | .free => decide (sc.names.lookup y.1 = some .cell ∨ sc.names.lookup y.1 = some .free)
    | _ => true))
theorem lamD_by {N : List Str} {sc scope : Scope} (h : lamDB N sc scope = true) : LamD N sc scope := by
  simp only [lamDB, Bool.and_eq_true, Bool.not_eq_true', decide_eq_true_eq, List.all_eq_true] at h
  obtain ⟨h1, h2, h3, h4⟩ := h
  constructor
  · exact h1
  · exact h2
  · exact h3
  · intro y hy e
    have := h4 y hy
    rw [e] at this
    cases this
  · intro y hy e
    have := h4 y hy
    rw [e] at this
    exact of_decide_eq_true this
  · intro y hy e
    have := h4 y hy
    rw [e] at this
    exact of_decide_eq_true this
section
variable {X : Cx} {pins : List (Addr × Obj)} {σ : L2.St} {H HZ : Hp} {s s1 : Shared} {scope : Scope}
theorem LamD.caps (L : LamD X.N X.env.scope scope) (ok : X.Ok) : ∀ y ∈ scope.names, y.2 = .free → ∃ c, X.env.cells.lookup y.1 = some c := by
  intro y hy e
  apply ok.has
  exact L.free y hy e
/-- the frame of such a lambda at its start -/
theorem lamD_start {A : Around} {outer : List Env} {E : XK} {f c' : Addr} {h₁ : Heap} {tk : Nat} {mm : Str → Option Value} (I : Inv X pins σ H s) (L : LamD X.N X.env.scope scope) (e0 : Env0 X.prog X.w X.K X.mg X.base A outer s1 HZ) (hd : A.handled = none)
    (un : Un (frs X.stack) [] H HZ s.heap s1.heap) (hns : h₁.Ns s1.heap.objs.size mm) (kp : ∀ b o, s1.heap.get? b = some o → h₁.get? b = some o) :
    Inv (lamCx X A outer s1 HZ E scope f c') [] σ HZ { s1 with heap := h₁, toks := tk } := by
  have capF := L.caps I.ok
  have back : ∀ {y c}, (cloFrom X.env.cells scope.names []).lookup y = some c → X.env.cells.lookup y = some c := fun {y c} e => NdefX.clo_cm capF e
  have cellNow : ∀ {c : Addr} {v : Option Value}, H c = none → s.heap.IsCell c v → h₁.IsCell c v := by
    intro c v n z
    obtain ⟨o, ho, hv⟩ := z
    obtain ⟨sl, q⟩ := un.any ho n (by simp)
    exact ⟨_, kp _ _ q, hv⟩
  have none_ex : ∀ b : Addr, b ∉ (lamCx X A outer s1 HZ E scope f c').ex := by
    intro b z
    have z : b ∈ ([] : List Addr) := z
    cases z
  have okL : (lamCx X A outer s1 HZ E scope f c').Ok :=
    { mod := e0.mod
      kind := L.kind
      glob := rfl
      blt := rfl
      above := Nat.le_refl _
      inj := fun y z c e1 e2 => I.ok.inj y z c (back e1) (back e2)
      has := by
        intro y hy
        have hy : scope.names.lookup y = some .cell ∨ scope.names.lookup y = some .free := hy
        rcases hy with k | k
        · exact absurd rfl (L.noc _ (PySem.mem_of_lookup k))
        · obtain ⟨c, hc⟩ := capF _ (PySem.mem_of_lookup k) rfl
          exact ⟨c, NdefX.clo_has capF (PySem.mem_of_lookup k) hc⟩
      cab := fun y c z _ => by
        have z : false = true := z
        cases z
      hd := fun _ => hd
      frames := Around.frames_deeper e0.frames
      stk := .inr ⟨rfl, rfl⟩
      exf := fun b z => absurd z (none_ex b)
      bs := e0.bs
      bsz := e0.bsz
      noex := fun b _ _ => none_ex b
      exfs := fun b z => absurd z (none_ex b)
      funs := e0.funs
      frf := e0.frf }
  exact
    { ok := okL
      os := rfl
      bare := e0.bare
      base := Un.kept kp
      loc := by
        refine ⟨mm, hns, ?_⟩
        intro i y v e1 e2 e3
        have e3 : Vis scope y := e3
        have e1 : X.N[i]? = some y := e1
        rcases e3 with k | k | k
        · exact absurd (List.mem_of_getElem? e1) (L.loc _ (PySem.mem_of_lookup k) rfl)
        · exact absurd rfl (L.noc _ (PySem.mem_of_lookup k))
        · obtain ⟨m, _, hl⟩ := I.loc
          have vis : Vis X.env.scope y := by
            rcases L.free _ (PySem.mem_of_lookup k) rfl with z | z
            · exact .inr (.inl z)
            · exact .inr (.inr z)
          obtain ⟨u, r, q⟩ := hl i y v e1 e2 vis
          obtain ⟨c2, h2'⟩ := capF _ (PySem.mem_of_lookup k) rfl
          have h2 := NdefX.clo_has capF (PySem.mem_of_lookup k) h2'
          refine ⟨u, r, .inr ⟨.inr k, c2, h2, ?_⟩⟩
          have c1 := back h2
          rcases q with ⟨k', _⟩ | ⟨_, c3, e', z⟩
          · have k' : X.env.scope.names.lookup y = some .local := k'
            rcases L.free _ (PySem.mem_of_lookup k) rfl with z | z
            · rw [show X.env.scope.names.lookup y = some .cell from z] at k'
              cases k'
            · rw [show X.env.scope.names.lookup y = some .free from z] at k'
              cases k'
          · have := c1.symm.trans e'
            cases this
            exact cellNow (I.freeC y c2 c1) z
      cell := fun y c e => by
        obtain ⟨v, z⟩ := I.cell y c (back e)
        exact ⟨v, cellNow (I.freeC y c (back e)) z⟩
      free := e0.hok.fresh (Nat.le_refl _)
      freeC := fun y c e => by
        obtain ⟨v, o, ho, _⟩ := I.cell y c (back e)
        exact un.free c o ho (I.freeC y c (back e)) (by simp)
      pin := fun q hq => by
        have hq : q ∈ ([] : List (Addr × Obj)) ++ [] := hq
        simp at hq
      hok := e0.hok.kept kp
      len := I.len }
/-- it is made -/
theorem lamD_make {T : List (Addr × Str)} {c P : Addr} {i : Int} {j : Nat} {epos : Pos} {params : Arguments} {body : Expr} {pos : Pos} {E : Value → Shared → Prop} {Q : Value → Shared → Prop} (I : Inv X pins σ H s) (TB : TabB X.base X.mg c P) (hcode : X.env.code = .ref c)
    (hm : (P, X.env.qual ++ "<lambda>") ∈ T) (hu : ∀ p ∈ T, p.1 = P → p.2 = X.env.qual ++ "<lambda>") (hT : Tabs T H) (hd : params.defaults = [.Constant (.int i) j epos]) (hk : params.kw_defaults = []) (hfree : ∀ y ∈ scope.names, y.2 = .free → ∃ c, X.env.cells.lookup y.1 = some c)
    (h : ∀ (f c' d : Addr) (v doc pm ctv : Value) (H1 : Hp) (s' : Shared), Inv X pins σ H1 s' → ExtN H H1 → Tabs T H1 →
      s'.heap.get? f = some (PySem.W.kdv_obj "<lambda>" (X.env.qual ++ "<lambda>") params (.expr body) scope (cloFrom X.env.cells scope.names []) (.ref d) doc pm c' ctv) → H1 f = none → f ∉ frs X.stack →
      s'.heap.get? d = some (PySem.W.kdv_tup [v]) → H1 d = none → d ∉ frs X.stack → H1 c' = some (CodeO c' (X.env.qual ++ "<lambda>")) → Q (.ref f) s') :
    wpAny (model X.prog X.w) X.A (eval (.Lambda params body scope pos) X.env) Q E s := by
  refine PySem.W.kdv_lam (by rw [hd]; rfl) hk ?_
  rw [hd]
  refine PySem.W.kdv_all1 (wpAny_Constant_int ?_)
  generalize hs2 : ({ s with toks := s.toks + 1 } : Shared) = s2
  generalize (Value.int i s.toks) = v
  have I2 : Inv X pins σ H s2 := by
    rw [← hs2]
    exact I.tok _
  refine PySem.W.kdv_all0 ?_
  rw [makeFunction_eq]
  simp only [List.zip_nil_right, List.filterMap_nil, List.isEmpty_nil, if_true, pure_bind, List.isEmpty_cons, Bool.false_eq_true, if_false]
  refine wpAny_bind (wpAny_newTextTuple ?_)
  obtain ⟨ps, hP, ht, ha⟩ := hT _ hm
  generalize hs3 : ({ s2 with heap := s2.heap.push { cls := .type "tuple", data := .seq [v].toArray } } : Shared) = s3
  have hd3 : s3.heap.get? s2.heap.objs.size = some (PySem.W.kdv_tup [v]) := by
    rw [← hs3]
    exact Heap.get?_push_size _ rfl
  have I3 : Inv X pins σ H s3 := by
    rw [← hs3]
    exact I2.kept fun b o e => Heap.get?_push_of_some _ e
  have z3 : s3.heap.objs.size = s2.heap.objs.size + 1 := by
    rw [← hs3, Heap.size_push]
  have nd : H s2.heap.objs.size = none := I2.hok.fresh (Nat.le_refl _)
  have young : ∀ a, s2.heap.objs.size ≤ a → a ∉ frs X.stack := fun a ha z => by
    rcases List.mem_cons.mp (I2.stkSub _ z) with e | e
    · have l := I2.lt
      rw [← e] at l
      exact Nat.lt_irrefl _ (Nat.lt_of_lt_of_le l ha)
    · exact I2.nofs ha e
  have hP3 : s3.heap.get? P = some { cls := .none, data := .fields ps } := I3.hok P _ hP
  have bP : s3.heap.BuiltinsAt X.mg P := TB.bm.keeps I3.bk
  cases hc : codeAmong pos ps.toList with
  | none =>
    refine PySem.W.kdv_makeTail (mg := X.mg) (c := c) (P := P) (ps := ps) (closure_ok hfree) I3.ok.glob (I3.mod.glob.keeps I3.bk) hcode (TB.code.keeps I3.bk) hP3 ht hc TB.gP bP ?_
    intro c' ctv doc h' tk hx hge hlt hrec htb
    obtain ⟨c2, oc, vs, t, e2, hoc, hdd, hv⟩ := hrec
    cases e2
    have nC : H c' = none := I3.hok.fresh hge
    have dc : s2.heap.objs.size ≠ c' := by omega
    have dP : s2.heap.objs.size ≠ P := fun z => by
      rw [z, hP] at nd
      cases nd
    have Pc : P ≠ c' := fun z => by
      rw [← z, hP] at nC
      cases nC
    have I4 := inv_table (t' := tk) (more := #[rawInt pos.line, rawInt pos.col, .ref c']) (h' := h'.push (PySem.W.kdv_obj "<lambda>" (X.env.qual ++ "<lambda>") params (.expr body) scope (cloFrom X.env.cells scope.names []) (.ref s2.heap.objs.size) doc ((X.mg "__name__").getD .none) c' ctv)) I3 hP
      (fun b o hb e => Heap.get?_push_of_some _ (hx b o hb e)) (Heap.get?_push_of_some _ htb) hge ⟨oc, vs, t, Heap.get?_push_of_some _ hoc, hdd, hv⟩
    have ext : ExtN H (upd (upd H P (.tbl (ps ++ #[rawInt pos.line, rawInt pos.col, .ref c']))) c' (CodeO c' (X.env.qual ++ "<lambda>"))) := by
      intro b o e n
      have b1 : b ≠ c' := ne_of_none e nC
      have b2 : b ≠ P := fun z => by
        rw [z, hP] at e
        exact n ps (Option.some.inj e).symm
      rw [upd_ne b1, upd_ne b2]
      exact e
    refine h h'.objs.size c' s2.heap.objs.size v doc ((X.mg "__name__").getD .none) ctv _ _ I4 ext ?_ (Heap.get?_push_size _ rfl) ?_ (young _ (by omega)) ?_ ?_ (young _ (Nat.le_refl _)) upd_same
    · intro p hp
      by_cases hb : p.1 = P
      · rw [hu p hp hb, hb]
        have eL : (ps ++ #[rawInt pos.line, rawInt pos.col, .ref c']).toList = ps.toList ++ [rawInt pos.line, rawInt pos.col, .ref c'] := by simp
        refine ⟨_, by rw [upd_ne Pc, upd_same], ?_, ?_⟩
        · rw [eL]
          exact PySem.TriplesOk_snoc _ _ _ _ ht
        · intro p' cv hcv
          rw [eL] at hcv
          rcases among_app _ ht hcv with z | z
          · obtain ⟨c0, e1, e2⟩ := ha p' cv z
            exact ⟨c0, e1, ext _ _ e2 codeO_ne⟩
          · exact ⟨c', z, upd_same⟩
      · obtain ⟨ps', a1, a2, a3⟩ := hT p hp
        refine ⟨ps', ?_, a2, ?_⟩
        · rw [upd_ne (ne_of_none a1 nC), upd_ne hb]
          exact a1
        · intro p' cv hcv
          obtain ⟨c0, e1, e2⟩ := a3 p' cv hcv
          exact ⟨c0, e1, ext _ _ e2 codeO_ne⟩
    · have lP : P < s3.heap.objs.size := Heap.lt_size hP3
      have nP : h'.objs.size ≠ P := Nat.ne_of_gt (Nat.lt_of_lt_of_le lP (Nat.le_trans hge (Nat.le_of_lt hlt)))
      rw [upd_ne (Nat.ne_of_gt hlt), upd_ne nP]
      exact I3.hok.fresh (by omega)
    · exact Heap.get?_push_of_some _ (hx _ _ dP hd3)
    · rw [upd_ne dc, upd_ne dP]
      exact nd
  | some cv =>
    obtain ⟨c', e, hco⟩ := ha pos cv hc
    cases e
    refine PySem.W.kdv_makeTailHit (mg := X.mg) (c := c) (P := P) (ps := ps) (closure_ok hfree) I3.ok.glob (I3.mod.glob.keeps I3.bk) hcode (TB.code.keeps I3.bk) hP3 ht hc bP ?_
    intro ctv doc h' tk hx hsz
    have I4 : Inv X pins σ H { s3 with heap := h'.push (PySem.W.kdv_obj "<lambda>" (X.env.qual ++ "<lambda>") params (.expr body) scope (cloFrom X.env.cells scope.names []) (.ref s2.heap.objs.size) doc ((X.mg "__name__").getD .none) c' ctv), toks := tk } := I3.kept fun b o e => Heap.get?_push_of_some _ (hx b o e)
    exact h h'.objs.size c' s2.heap.objs.size v doc ((X.mg "__name__").getD .none) ctv H _ I4 (ExtN.refl H) hT (Heap.get?_push_size _ rfl) (I3.hok.fresh hsz) (young _ (by omega)) (Heap.get?_push_of_some _ (hx _ _ hd3)) nd (young _ (Nat.le_refl _)) hco
/-- it is called -/
theorem lamD_act {CXg : CXT} {Eg : XK} {Ng : List Str} {qg : Str} {sg : Scope} {g f c' d : Addr} {cdg pm ctv doc v : Value} {params : Arguments} {body : Expr} {k i : Nat} {a x : Str} {pn : List (Addr × Obj)} {xe : Value → Shared → Prop} {W : WX} {E : XK} {tb : TE} {p1 p2 : Pos}
    (I : Inv X pins σ H s) (L : LamD X.N X.env.scope scope) (hf : s.heap.get? f = some (PySem.W.kdv_obj "<lambda>" (X.env.qual ++ "<lambda>") params (.expr body) scope (cloFrom X.env.cells scope.names []) (.ref d) doc pm c' ctv)) (hfn : H f = none) (hfr : f ∉ frs X.stack)
    (hd : s.heap.get? d = some (PySem.W.kdv_tup [v])) (hdn : H d = none) (hdr : d ∉ frs X.stack) (hx : scope.names.lookup x = some .local)
    (hbind : ∀ s1 : Shared, s1.heap.get? d = some (PySem.W.kdv_tup [v]) → BindsTo s1 (PySem.W.kdv_fn "<lambda>" (X.env.qual ++ "<lambda>") params (.expr body) scope (cloFrom X.env.cells scope.names []) (.ref d) doc pm (.ref c') ctv) ⟨[], []⟩ [(x, v)])
    (tk : Takes ((cxOf CXg X.prog X.w X.K X.mg X.base Ng qg sg g cdg X.A X.stack s H Eg).tr pn xe) W) (hW : ∀ cls d σ' H', E cls d H' → W cls d σ' H') (hr : Room (k + 1) (X.A.deeper (envOfC qg sg s.heap.objs.size g cdg)))
    (hbody : ∀ (A : Around) (outer : List Env) (s : Shared) (H : Hp), Room k (A.deeper (lamEnv X scope s.heap.objs.size f c')) → PE (lamCx X A outer s H E scope f c') body tb)
    (hN : Ng[i]? = some a) (hv : Vis sg a) (hdb : (a == ("__debug__" : Str)) = false := by decide) (hcd : (a == ("__classdict__" : Str)) = false := by decide) :
    PE ((cxOf CXg X.prog X.w X.K X.mg X.base Ng qg sg g cdg X.A X.stack s H Eg).tr pn xe) (.Call (.Name a p1) [] [] p2)
      (fun σZ HZ Q => σZ[i]? = some (some (.ref f)) ∧ HZ c' = some (CodeO c' (X.env.qual ++ "<lambda>")) ∧ tb σ HZ Q) := by
  constructor
  intro pinsZ sZ σZ HZ Q IZ h
  obtain ⟨hs, hc, ht⟩ := h
  have var := (pe_var (X := (cxOf CXg X.prog X.w X.K X.mg X.base Ng qg sg g cdg X.A X.stack s H Eg).tr pn xe) (pos := p1) (i := i) hN hv hdb hcd).run pinsZ sZ σZ HZ (fun v H1 => v = .ref f ∧ H1 = HZ) IZ ⟨.ref f, hs, rfl, rfl⟩
  refine wpAny_Call_Name_kw (thn var ?_)
  rintro u s1 ⟨w1, H1, I1, r1, rfl, rfl⟩
  have eu : u = Value.ref f := r1
  subst eu
  have keep : ∀ {b : Addr} {o : Obj}, s.heap.get? b = some o → H b = none → b ∉ frs X.stack → s1.heap.get? b = some o := fun {b o} e n nf => I1.base.keep b o e n nf (fun z => nomatch (show b ∈ ([] : List Addr) from z))
  have of1 := keep hf hfn hfr
  have od1 := keep hd hdn hdr
  refine PySem.W.callWith_F0 ⟨_, _, _, _, of1⟩ ?_
  have un : Un (frs X.stack) [] H H1 s.heap s1.heap := I1.base
  obtain ⟨⟨oc, vs, t, hoc, hdc, hvc⟩, _, _⟩ := I1.hok c' _ hc
  have rc : codeAny (model X.prog X.w) (X.A.deeper (envOfC qg sg s.heap.objs.size g cdg)) (.call (.ref f) ⟨[], []⟩) (CR (L2.CX X.prog X.w) (envOfC qg sg s.heap.objs.size g cdg :: X.stack) X.prog X.w H1 s1 Q E) s1 := by
    refine PySem.W.kla_callFunE hr.depth of1 rfl L.co L.gen rfl ⟨c', oc, vs, t, rfl, hoc, hdc, hvc⟩ (hbind s1 od1 _ _ _ _ ?_)
    refine wpAny_newFunctionEnv L.noc (fun y hy => ?_) (fun h₁ hns hsb => ⟨I1.nolimit.fresh _ hsb, ?_⟩) L.kind
    · rw [List.mem_singleton.mp hy]
      exact hx
    · have kp : ∀ b o, s1.heap.get? b = some o → h₁.get? b = some o := fun b o e => hsb.extBut b o (Nat.ne_of_lt (Heap.lt_size e)) (Heap.get?_push_of_some _ e)
      have J := lamD_start (E := E) (f := f) (c' := c') (tk := s1.toks + [(x, v)].length) I L I1.env0 hr.hd un hns kp
      refine PySem.W.kla_codeExpr (wpAny_mono ((hbody _ _ s1 H1 (hr.deeper _)).run [] _ _ H1 Q J ht) ?_ fun e s' hq => hq)
      rintro u s' ⟨w', H', J', rv, q⟩
      exact ⟨w', H', J'.os, J'.bare, J'.base, J'.hok, rv, q⟩
  have px : Passes (L2.CX X.prog X.w) ((cxOf CXg X.prog X.w X.K X.mg X.base Ng qg sg g cdg X.A X.stack s H Eg).tr pn xe) E := passes_call tk hW
  refine wpAny_call (codeAny_mono rc ?_)
  intro r s' hq
  match r, hq with
  | .error e, hq => exact px pinsZ σZ H1 s1 e s' I1 hq
  | .ok (.ret u), hq => exact I1.after hq
  | .ok .next, hq => exact hq.elim
  | .ok .brk, hq => exact hq.elim
  | .ok .cont, hq => exact hq.elim
/-- f(lambda x=0: body) -/
theorem lamD_call {T : List (Addr × Str)} {TT : (XK → Hp → VK → Prop) → Hp → VK → Prop} {x a y : Str} {g c P : Addr} {i : Int} {j k : Nat} {pg : Arguments} {bg : List Stmt} {sg : Scope} {dV kV doc pm cdv ct oc : Value} {an od : Option Addr} {osl : Array (Option Value)} {Ng : List Str}
    {params : Arguments} {body : Expr} {t : XK → TE} {p lpos pos epos : Pos} (hg : Gl X x) (hm : X.mg x = some (.ref g)) (hk : PySem.W.keepIn X.K (.ref g) = true)
    (lk : X.K.lookup g = some ⟨oc, od, .func (PySem.W.fnOf x x pg bg sg dV kV doc pm an cdv ct), osl⟩) (hcg : PySem.W.codeIn X.K cdv x = true) (hb : L2.Binds X.K (PySem.W.fnOf x x pg bg sg dV kV doc pm an cdv ct) [a] []) (Sg : FnScope Ng [a] sg) (hNg : Ng[0]? = some a) (hva : Vis sg a)
    (hG : GivesTo X Ng x sg g cdv bg a (X.env.qual ++ "<lambda>") TT)
    (TB : TabB X.base X.mg c P) (hcode : X.env.code = .ref c) (hmT : (P, X.env.qual ++ "<lambda>") ∈ T) (hu : ∀ p ∈ T, p.1 = P → p.2 = X.env.qual ++ "<lambda>") (hr : Room (k + 2) X.A) (L : LamD X.N X.env.scope scope) (hy : scope.names.lookup y = some .local)
    (hdef : params.defaults = [.Constant (.int i) j epos]) (hkw : params.kw_defaults = [])
    (hbind : ∀ (s1 : Shared) (q : Str) (cl : List (Str × Addr)) (d : Addr) (doc pm cv ctv v : Value), s1.heap.get? d = some (PySem.W.kdv_tup [v]) → BindsTo s1 (PySem.W.kdv_fn "<lambda>" q params (.expr body) scope cl (.ref d) doc pm cv ctv) ⟨[], []⟩ [(y, v)])
    (hbody : ∀ (A : Around) (outer : List Env) (s : Shared) (H : Hp) (E : XK) (f c' : Addr), Room k (A.deeper (lamEnv X scope s.heap.objs.size f c')) → PE (lamCx X A outer s H E scope f c') body (t E))
    (hdb : (x == ("__debug__" : Str)) = false := by decide) (hdb2 : (a == ("__debug__" : Str)) = false := by decide) (hcd : (a == ("__classdict__" : Str)) = false := by decide) :
    PE X (.Call (.Name x p) [.Lambda params body scope lpos] [] pos) (tLam T TT t) := by
  constructor
  intro pins s σ H Q I h
  obtain ⟨hT, h⟩ := h
  refine wpAny_Call_Name_kw (ld_glob I hg hm ?_ hdb)
  refine PySem.W.callWith_K (h₀ := X.base) I.ok.mod.kin hk ?_ (by rfl) (by rfl)
  show wpAny _ _ (spliced ((false, eval (.Lambda params body scope lpos) X.env) :: backTo pos (starEach [] X.env))) _ _ s
  refine Calls.spliced_cons (lamD_make I TB hcode hmT hu hT hdef hkw (L.caps I.ok) ?_)
  intro f c' d v doc' pm' ctv H1 s' I1 eN T1 hf hfn hfr hd hdn hdr hco
  refine Calls.spliced_nil ⟨I1.kIn, ?_⟩
  have rc : codeAny (model X.prog X.w) X.A (.call (.ref g) ⟨[.ref f], []⟩) (CR C8.CX0 X.stack X.prog X.w H1 s' Q C8.E0) s' := by
    refine run_ofS (N := Ng) (ps := [a]) (us := [.ref f]) (vs := [.ref f]) lk hcg Sg hr I1.env0 (hb s' [.ref f] I1.kIn rfl) (.cons rfl .nil) rfl ?_
    intro hr'
    obtain ⟨t', ht', hq'⟩ := hG f c' s' H1 Q (fun E H' Q' => t E σ H' Q')
      (fun W pn xe E p1 p2 tk hW => lamD_act (i := 0) I1 L hf hfn hfr hd hdn hdr hy (fun s1 e => hbind s1 _ _ _ _ _ _ _ _ e) tk hW hr' (fun A outer s H hr2 => hbody A outer s H E f c' hr2) hNg hva hdb2 hcd) hco (h H1 eN T1)
    exact ⟨t', ht'.nox, hq'⟩
  refine wpAny_call (codeAny_mono rc ?_)
  intro r s2 hq
  match r, hq with
  | .error e, hq => exact (show False from hq).elim
  | .ok (.ret u), hq => exact I1.after hq
  | .ok .next, hq => exact hq.elim
  | .ok .brk, hq => exact hq.elim
  | .ok .cont, hq => exact hq.elim
end
theorem de_toldD {X : Cx} {T : Tab} {k kf : Nat} {params : Arguments} {body : Expr} {scope : Scope} {te : DTEx} {p lpos pos epos : Pos} {y : Str} {i : Int} {j : Nat} (TP : TldP X.prog X.w X.K T X.mg X.base kf) (LT_ : LamT X T) (hk : kf ≤ k + 1) (hr : Room (k + 2) X.A) (hg : Gl X "_law_told") (L : LamD X.N X.env.scope scope) (hy : scope.names.lookup y = some .local)
    (hbody : ∀ (A : Around) (outer : List Env) (s : Shared) (H : Hp) (E : XK) (f c' : Addr), Room k (A.deeper (LamX.lamEnv X scope s.heap.objs.size f c')) → PE (LamX.lamCx X A outer s H E scope f c') body (UpEx X.K T ⟨X.mg, E⟩ te))
    (hdef : params.defaults = [.Constant (.int i) j epos] := by rfl) (hkw : params.kw_defaults = [] := by rfl) (hbind : ∀ (s1 : Shared) (q : Str) (cl : List (Str × Addr)) (d : Addr) (doc pm cv ctv v : Value), s1.heap.get? d = some (PySem.W.kdv_tup [v]) → BindsTo s1 (PySem.W.kdv_fn "<lambda>" q params (.expr body) scope cl (.ref d) doc pm cv ctv) ⟨[], []⟩ [(y, v)] := by intros; exact BindsTo.of_defaults rfl (by assumption) rfl rfl rfl) :
    PE X (.Call (.Name "_law_told" p) [.Lambda params body scope lpos] [] pos) (UpE X.K T (dTold te)) := by
  obtain ⟨g, pg, bg, sg, dV, kV, doc, pm, cdv, ct, oc, an, od, osl, h1, h2, h3, h4, h5, h6, ⟨g1, g2, g3, g4, g5, g6⟩, st2, st3, sts2, sts3, p1, p2, p3, p4, p5, p6, p7, p8, p9, p10, p11, p12, p13, p14, p15, p16, p17, p18, p19, j1, j2, j3, rfl⟩ := TP.ex
  obtain ⟨c, P, tb, hc, hm, hu⟩ := LT_.ex
  obtain ⟨CS, CK⟩ := TP.ck
  refine ⟨fun pins s σ H Q I ⟨S, τ, QD, sr, h, kq⟩ => ?_⟩
  refine (lamD_call (X := X) (T := tabsT T) (TT := TTd X.K T X.mg) (t := fun E => UpEx X.K T ⟨X.mg, E⟩ te) (k := k) (Ng := NTold) hg h1 h2 h3 h4 h5 h6 rfl g6
    (told_gives TP.fp CK TP.nn TP.nl (hr.mono (by omega)) g1 g2 g3 g4 g5) tb hc hm hu hr L hy hdef hkw hbind hbody).run pins s σ H Q I ⟨sr.bag.tb, fun H1 eN t1 => ?_⟩
  have a1 := extN_aft sr eN t1
  have s1 := sr.aft a1
  refine ⟨fun cl d H2 => ∃ er, Aft X.K T S H H2 ∧ ErR X.K T X.mg S.B H2 er cl d ∧ okEr er ∧ QD (.v 2 (.tup [.str er.c, fieldD er])), ?_, fun cl d H2 ⟨er, a2, eR, ok, q⟩ => ⟨S.B, S.L, er, a2.bag, eR, ok, fun H3 v kp bag rv => ?_⟩⟩
  · refine ⟨S, τ, _, _, s1, h, fun H2 v sl a2 r q => ⟨lim_le' (Nat.le_of_ble_eq_true rfl), fun p hn => ?_⟩, fun H2 er cl d a2 eR ⟨ok, q⟩ => ⟨er, a1.trans a2, eR, ok, q⟩⟩
    have s2 := s1.aft a2
    have a3 := s2.laid (o := .tup [.str "told", v]) hn
    exact kq _ _ (.v (up sl.g sl.d) (.tup [.str "told", sl.d])) (a1.trans (a2.trans a3)) ⟨p, _, rfl, SqT.of upd_same, .str "told", [v], rfl, rfl, v, [], rfl, RepG.up (s2.rep a3.kp (r.g s1)), rfl⟩ q
  · have a3 : Aft X.K T S H H3 := ⟨a2.kp.trans kp, bag⟩
    refine kq H3 v (.v 2 (.tup [.str er.c, fieldD er])) a3 (Rep.imm _ _ ?_ rv) q
    show ((D.str er.c).imm && immAll [fieldD er]) = true
    simp [ok.imm]
end DL
/-! DIX: xs.index(d), xs.count(d) over data. -/
namespace DL
open PySem PySem.Spec PyProof.Rows L2
def rCountD (K : PySem.W.Frag) : V → List V → Hp → VK → Prop := fun x xs H Q => ∃ (a : Addr) (y : V) (d : PyData) (ds : List PyData), x = V.ref a ∧ xs = [y] ∧ Dp K H (V.ref a) (.list ds) ∧ Dp K H y d ∧
  SeqAt.shaped (.list ds) = true ∧ SeqAt.shaped d = true ∧ Q (.int (ds.countP fun z => PyData.eqv z d : Nat)) H
section
variable {X : Cx}
theorem mt_countD (hu : X.A.units + 65 < cLine) : MtR X "list.count" (rCountD X.K) := by
  intro pins s σ H x xs v us Q I rx rxs h
  obtain ⟨a, y, d, ds, rfl, rfl, hl, hy, sl, sd, q⟩ := h
  cases rx
  cases rxs with
  | cons ry rt =>
    rename_i uy ut
    cases rt
    obtain ⟨bs, r1⟩ := Dp.reads I d y uy hy ry
    have hxs : PyData.canLayAll0 ds = true := SeqAt.canLay_of_shaped sl
    have hroom : X.A.units + 1 + min (PyData.depthAll ds) d.depth < cLine := room_in_shaped sd hu
    cases hl with
    | lst hs ha =>
      obtain ⟨its, rv, ⟨⟨cls, dd, data, sls⟩, n, ho, hc, hdn, hdt⟩, hlen⟩ := I.list hs
      simp only at hc hdt
      subst hc hdt
      obtain ⟨as, h4⟩ := Dp.readsAll I ds _ its ha rv
      have hmap : its.map (SeqAt.readOf s.heap) = ds := SeqAt.readsAll_map ds its as hxs h4
      refine call_meets PySem.F.slot_list_count ⟨_, ho, rfl⟩ PySem.F.entry_list_count (PySem.F.args_list_count_2 _ _)
        (SeqAt.list_countAt a its.toArray n dd sls uy (fun u => PyData.eqv (SeqAt.readOf s.heap u) d)) ⟨ho, SeqAt.items_eqAt (vs := its.toArray) (show ReadsAll s.heap its.toArray.toList ds as from h4) r1 hxs (SeqAt.canLay_of_shaped sd) hroom, ?_⟩
      have e : its.toArray.toList.countP (fun u => PyData.eqv (SeqAt.readOf s.heap u) d) = ds.countP fun z => PyData.eqv z d := by
        rw [← hmap, List.countP_map]
        rfl
      rw [e]
      exact ⟨.int _, H, I.tok _, ⟨_, rfl⟩, q⟩
end
theorem pys_map : ∀ ds : List D, pys ds = ds.map D.py
  | [] => rfl
  | d :: ds => by
    show d.py :: pys ds = _
    rw [pys_map ds]
    rfl
def idxD (ds : List D) (d : D) : Nat := ds.findIdx fun z => eqB z d
def cntD (ds : List D) (d : D) : Nat := ds.countP fun z => eqB z d
@[simp] def dIndex (to te : DTE) : DTE := fun τ Q => to τ fun s => match s.d with
  | .lst ds => te τ fun s2 => (shp s2.d = true ∧ shp (.lst ds) = true) ∧ idxD ds s2.d < ds.length ∧ Q (.v 2 (.int (idxD ds s2.d : Nat)))
  | _ => False
@[simp] def dCount (to te : DTE) : DTE := fun τ Q => to τ fun s => match s.d with
  | .lst ds => te τ fun s2 => (shp s2.d = true ∧ shp (.lst ds) = true) ∧ Q (.v 2 (.int (cntD ds s2.d : Nat)))
  | _ => False
section
variable {X : Cx} {T : Tab} {o e : Expr} {to te : DTE} {pos apos : Pos}
theorem up_index {σ : L2.St} {H : Hp} {Q : VK} (h : UpE X.K T (dIndex to te) σ H Q) : tBM X.K "list" (rIndexD X.K) (UpE X.K T to) (tCons (UpE X.K T te) tNil) σ H Q := by
  obtain ⟨S, τ, QD, sr, h, k⟩ := h
  refine ⟨S, τ, _, sr, h, fun H1 v x a1 r1 q1 => ?_⟩
  have s1 := sr.aft a1
  have r1 := r1.g sr
  split at q1
  · rename_i ds ed
    rw [ed] at r1
    obtain ⟨a, vs, rfl, hs, _⟩ := RepG.up r1
    refine ⟨.inl ⟨rfl, _, SqL.of hs⟩, S, τ, _, s1, q1, fun H2 u y a2 r2 q2 => ?_⟩
    have s2 := s1.aft a2
    have r2 := r2.g s1
    obtain ⟨⟨h1, h2⟩, hj, q2⟩ := q2
    unfold idxD at hj q2
    obtain ⟨p1, t1⟩ := shp_dp h1 (RepG.up r2)
    obtain ⟨p2, t2⟩ := shp_dp h2 (RepG.up (s1.rep a2.kp r1))
    have p2 : Dp X.K H2 (.ref a) (.list (pys ds)) := p2
    have hmiss := fun m (hm : m < ds.findIdx fun z => eqB z y.d) => List.not_of_lt_findIdx hm
    refine ⟨a, u, _, pys ds, ds.findIdx (fun z => eqB z y.d), (ds[ds.findIdx (fun z => eqB z y.d)]'hj).py, rfl, rfl, p2, p1, t2, t1, ?_, ?_, ?_, ?_⟩
    · rw [pys_map, List.getElem?_map, List.getElem?_eq_getElem hj]
      rfl
    · exact List.findIdx_getElem (p := fun z => eqB z y.d) (w := hj)
    · intro m z' hm hz
      rw [pys_map, List.getElem?_map, List.getElem?_eq_getElem (Nat.lt_trans hm hj)] at hz
      rw [← Option.some.inj hz]
      simpa [eqB] using hmiss m hm
    · exact k H2 _ (.v 2 (.int _)) (a1.trans a2) rfl q2
  · exact q1.elim
theorem up_count {σ : L2.St} {H : Hp} {Q : VK} (h : UpE X.K T (dCount to te) σ H Q) : tBM X.K "list" (rCountD X.K) (UpE X.K T to) (tCons (UpE X.K T te) tNil) σ H Q := by
  obtain ⟨S, τ, QD, sr, h, k⟩ := h
  refine ⟨S, τ, _, sr, h, fun H1 v x a1 r1 q1 => ?_⟩
  have s1 := sr.aft a1
  have r1 := r1.g sr
  split at q1
  · rename_i ds ed
    rw [ed] at r1
    obtain ⟨a, vs, rfl, hs, _⟩ := RepG.up r1
    refine ⟨.inl ⟨rfl, _, SqL.of hs⟩, S, τ, _, s1, q1, fun H2 u y a2 r2 q2 => ?_⟩
    have r2 := r2.g s1
    obtain ⟨⟨h1, h2⟩, q2⟩ := q2
    unfold cntD at q2
    obtain ⟨p1, t1⟩ := shp_dp h1 (RepG.up r2)
    obtain ⟨p2, t2⟩ := shp_dp h2 (RepG.up (s1.rep a2.kp r1))
    have p2 : Dp X.K H2 (.ref a) (.list (pys ds)) := p2
    refine ⟨a, u, _, pys ds, rfl, rfl, p2, p1, t2, t1, ?_⟩
    have e : (pys ds).countP (fun z => PyData.eqv z y.d.py) = ds.countP fun z => eqB z y.d := by
      rw [pys_map, List.countP_map]
      rfl
    rw [e]
    exact k H2 _ (.v 2 (.int _)) (a1.trans a2) rfl q2
  · exact q1.elim
theorem de_index (hu : X.A.units + 65 < cLine) (ho : PE X o (UpE X.K T to)) (he : PE X e (UpE X.K T te)) (hs : starEach [e] X.env = [(false, eval e X.env)] := by rfl) (hbase : attributeBase o "index" X.env (eval o X.env) = eval o X.env := by rfl) (hline : (apos.endLine == pos.line) = true := by rfl) :
    PE X (.Call (.Attribute o "index" apos) [e] [] pos) (UpE X.K T (dIndex to te)) :=
  (pe_bm PySem.F.plainAttrs_list PySem.F.slot_list_index PySem.F.type_list_index (mt_indexD hu) ho (pa_cons he pa_nil hs) hbase (by rw [hs]; rfl) hline hs (by rfl)).of fun _ _ _ h => up_index h
theorem de_count (hu : X.A.units + 65 < cLine) (ho : PE X o (UpE X.K T to)) (he : PE X e (UpE X.K T te)) (hs : starEach [e] X.env = [(false, eval e X.env)] := by rfl) (hbase : attributeBase o "count" X.env (eval o X.env) = eval o X.env := by rfl) (hline : (apos.endLine == pos.line) = true := by rfl) :
    PE X (.Call (.Attribute o "count" apos) [e] [] pos) (UpE X.K T (dCount to te)) :=
  (pe_bm PySem.F.plainAttrs_list PySem.F.slot_list_count PySem.F.type_list_count (mt_countD hu) ho (pa_cons he pa_nil hs) hbase (by rw [hs]; rfl) hline hs (by rfl)).of fun _ _ _ h => up_count h
end
end DL
/-! Q1: pieces, labels, rows, in plain Lean. -/
namespace PR
/-- a piece -/
inductive Pc where
  | top (n : Int) | old (a : Int) (b : Option Int) | new (l h n : Int)
  deriving DecidableEq
abbrev Lab := Int × Int
def Pc.size : Pc → Option Int
  | .top n => some n
  | .old _ none => none
  | .old a (some b) => some (b - a + 1)
  | .new _ _ n => some n
def Pc.first : Pc → Option Lab
  | .top _ => none
  | .old a _ => some (a, a)
  | .new l h _ => some (l, h)
/-- the last label of a closed piece -/
def Pc.last : Pc → Option Lab
  | .top _ => none
  | .old _ none => none
  | .old _ (some b) => some (b, b)
  | .new l h _ => some (l, h)
def Pc.isTop : Pc → Bool
  | .top _ => true
  | _ => false
def Pc.isOld : Pc → Bool
  | .old _ _ => true
  | _ => false
def Pc.isOpen : Pc → Bool
  | .old _ none => true
  | _ => false
@[simp] theorem isTop_t (n : Int) : (Pc.top n).isTop = true := rfl
@[simp] theorem isTop_o (a : Int) (b : Option Int) : (Pc.old a b).isTop = false := rfl
@[simp] theorem isTop_n (l h n : Int) : (Pc.new l h n).isTop = false := rfl
@[simp] theorem isOld_t (n : Int) : (Pc.top n).isOld = false := rfl
@[simp] theorem isOld_o (a : Int) (b : Option Int) : (Pc.old a b).isOld = true := rfl
@[simp] theorem isOld_n (l h n : Int) : (Pc.new l h n).isOld = false := rfl
@[simp] theorem isOpen_t (n : Int) : (Pc.top n).isOpen = false := rfl
@[simp] theorem isOpen_o (a : Int) (b : Option Int) : (Pc.old a b).isOpen = b.isNone := by cases b <;> rfl
@[simp] theorem isOpen_n (l h n : Int) : (Pc.new l h n).isOpen = false := rfl
def weld : Pc → Pc → Option Pc
  | .top m, .top n => some (.top (m + n))
  | .old a (some b), .old c d => if b + 1 = c then some (.old a d) else none
  | .new l h n, .new l' h' m => if l = l' ∧ h = h' then some (.new l h (n + m)) else none
  | _, _ => none
def normF (found : List Pc) (p : Pc) : List Pc := match found.getLast? with
  | none => [p]
  | some q => match weld q p with
    | none => found ++ [p]
    | some b => found.dropLast ++ [b]
def norm (ps : List Pc) : List Pc := ps.foldl normF []
def Pc.valid : Pc → Bool
  | .top n => decide (1 ≤ n)
  | .old a none => decide (0 ≤ a)
  | .old a (some b) => decide (0 ≤ a) && decide (a ≤ b)
  | .new l h n => decide (0 ≤ l) && decide (l < h) && decide (1 ≤ n)
/-- may q come behind the closed piece p -/
def mayF (p q : Pc) : Bool := if p.isTop then true else if q.isTop then false else match p.last, q.first with
  | some x, some y => !(decide (x.1 > y.1) || decide (x.2 > y.2)) && (!p.isOld || !q.isOld || decide (x ≠ y))
  | _, _ => false
def okFrom : Option Pc → List Pc → Bool
  | none, [] => false
  | some p, [] => p.isOpen
  | b, p :: ps => p.valid && (match b with
    | none => true
    | some q => !q.isOpen && mayF q p) && okFrom (some p) ps
theorem okFrom_cons (b : Option Pc) (p : Pc) (ps : List Pc) : okFrom b (p :: ps) = (p.valid && (match b with
    | none => true
    | some q => !q.isOpen && mayF q p) && okFrom (some p) ps) := by cases b <;> rfl
def okPcs (ps : List Pc) : Bool := okFrom none ps
/-- no open piece but the last one -/
def closedF : List Pc → Bool
  | [] => true
  | [_] => true
  | p :: q :: ps => !p.isOpen && closedF (q :: ps)
/-- is the pair a break, by the program -/
def brkP (b : Option Lab) (a : Lab) : Bool := match b with
  | none => decide (a ≠ (0, 0))
  | some b => if b.1 = a.1 ∨ b.2 = a.2 then false else decide (b.1 < b.2) || decide (a.1 < a.2) || decide (b.1 + 1 ≠ a.1)
def brkF : Option Lab → List Pc → List (Option Lab × Lab)
  | _, [] => []
  | b, p :: ps => match p.first with
    | none => brkF b ps
    | some a => (if brkP b a then [(b, a)] else []) ++ brkF p.last ps
def brks (ps : List Pc) : List (Option Lab × Lab) := brkF none ps
def rollF (found : List Pc) (x : Option Lab) : List Pc := match x with
  | none => match found.getLast? with
    | some (.top n) => found.dropLast ++ [.top (n + 1)]
    | _ => found ++ [.top 1]
  | some (l, h) => if l = h then match found.getLast? with
      | some (.old a (some b)) => if b + 1 = l then found.dropLast ++ [.old a (some l)] else found ++ [.old l (some l)]
      | _ => found ++ [.old l (some l)]
    else match found.getLast? with
      | some (.new l' h' n) => if l' = l ∧ h' = h then found.dropLast ++ [.new l h (n + 1)] else found ++ [.new l h 1]
      | _ => found ++ [.new l h 1]
def rollE (found : List Pc) : List Pc := match found.getLast? with
  | some (.old a _) => found.dropLast ++ [.old a none]
  | _ => found
def roll (rows : List (Option Lab)) : List Pc := rollE (rows.foldl rollF [])
/-- the last row is an old one -/
def oldEnd (rows : List (Option Lab)) : Prop := ∃ v, rows.getLast? = some (some (v, v))
/-- labels that may stand one behind the other -/
def lle (x y : Lab) : Prop := x.1 ≤ y.1 ∧ x.2 ≤ y.2 ∧ (x.1 = x.2 → y.1 = y.2 → x.1 < y.1)
def labOk (x : Lab) : Prop := 0 ≤ x.1 ∧ x.1 ≤ x.2
/-- v, v + 1, .. -/
def rangeI (v : Int) : Nat → List Int
  | 0 => []
  | n + 1 => v :: rangeI (v + 1) n
structure Rows (k : Nat) (rows : List (Option Lab)) : Prop where
  ex : ∃ (t : Nat) (ls : List Lab) (v : Int), rows = List.replicate t none ++ ls.map some ++ ((rangeI v 9).map fun i => some (i, i)) ∧ t ≤ 3 ∧ ls.length ≤ 3 * k ∧ (ls ++ [(v, v)]).Pairwise lle ∧ (∀ x ∈ ls ++ [(v, v)], labOk x) ∧ v ≤ 6 * k + 10
/-- is the pair a break, by the law -/
def brkL (x : Option Lab) (y : Lab) : Bool := match x with
  | none => decide (y ≠ (0, 0))
  | some x => if x.1 = y.1 ∨ x.2 = y.2 then false else !(decide (x.1 = x.2) && decide (y.1 = y.2) && decide (x.1 + 1 = y.1))
def brkR : Option Lab → List Lab → List (Option Lab × Lab)
  | _, [] => []
  | b, a :: ls => (if brkL b a then [(b, a)] else []) ++ brkR (some a) ls
def labsOf (rows : List (Option Lab)) : List Lab := rows.filterMap id
end PR
/-! M1: pieces, labels, rows: what the program's parts promise. -/
namespace PR
open PySem PySem.Spec PyProof.Rows L2 DL
abbrev FS0 : List Str := ["row_pieces"]
def oD : Option Int → D
  | none => .non
  | some i => .int i
@[simp] theorem oD_none : oD none = .non := rfl
@[simp] theorem oD_some (i : Int) : oD (some i) = .int i := rfl
def Pc.d : Pc → D
  | .top n => .tup [.str "top", .int n]
  | .old a b => .tup [.str "old", .int a, oD b]
  | .new l h n => .tup [.str "new", .int l, .int h, .int n]
theorem Pc.d_top (n : Int) : (Pc.top n).d = .tup [.str "top", .int n] := rfl
theorem Pc.d_old (a : Int) (b : Option Int) : (Pc.old a b).d = .tup [.str "old", .int a, oD b] := rfl
theorem Pc.d_new (l h n : Int) : (Pc.new l h n).d = .tup [.str "new", .int l, .int h, .int n] := rfl
@[simp] theorem oD_inj {a b : Option Int} : oD a = oD b ↔ a = b := by
  cases a <;> cases b <;> simp
@[simp] theorem Pc.d_inj {p q : Pc} : p.d = q.d ↔ p = q := by
  cases p <;> cases q <;> simp [Pc.d]
@[simp] theorem Pc.imm_d (p : Pc) : p.d.imm = true := by
  cases p with
  | old a b => cases b <;> rfl
  | _ => rfl
@[simp] theorem imm_pcs (ps : List Pc) : immAll (ps.map Pc.d) = true := by
  induction ps with
  | nil => rfl
  | cons p ps ih => simp [ih]
def labD (x : Lab) : D := .tup [.int x.1, .int x.2]
def oL : Option Lab → D
  | none => .non
  | some x => labD x
theorem labD_mk (a b : Int) : labD (a, b) = .tup [.int a, .int b] := rfl
@[simp] theorem labD_inj {x y : Lab} : labD x = labD y ↔ x = y := by
  obtain ⟨a, b⟩ := x
  obtain ⟨c, d⟩ := y
  simp [labD]
@[simp] theorem oL_none : oL none = .non := rfl
@[simp] theorem oL_some (x : Lab) : oL (some x) = labD x := rfl
@[simp] theorem oL_inj {x y : Option Lab} : oL x = oL y ↔ x = y := by
  cases x with
  | none => cases y <;> simp [labD]
  | some x =>
    cases y with
    | none => simp [labD]
    | some y => rw [oL_some, oL_some, labD_inj, Option.some.injEq]
@[simp] theorem imm_lab (x : Lab) : (labD x).imm = true := rfl
@[simp] theorem imm_oL (x : Option Lab) : (oL x).imm = true := by cases x <;> rfl
@[simp] theorem imm_labs (xs : List Lab) : immAll (xs.map labD) = true := by
  induction xs with
  | nil => rfl
  | cons p ps ih => simp [ih]
@[simp] theorem imm_oLs (xs : List (Option Lab)) : immAll (xs.map oL) = true := by
  induction xs with
  | nil => rfl
  | cons p ps ih => simp [ih]
def Pc.lastD : Pc → D
  | .old _ none => .tup [.non, .non]
  | p => oL p.last
def pcsD (ps : List Pc) : List D := ps.map Pc.d
abbrev layD (ps : List Pc) : D := .obj 0 [.lst (pcsD ps)]
@[simp] theorem imm_pcsD (ps : List Pc) : immAll (pcsD ps) = true := imm_pcs ps
/-- a list or a tuple -/
def seqOf (tu : Bool) (ds : List D) : D := if tu then .tup ds else .lst ds
@[simp] theorem elems_seqOf (tu : Bool) (ds : List D) : elems (seqOf tu ds) = some ds := by cases tu <;> rfl
def brkD (x : Option Lab × Lab) : D := .tup [oL x.1, labD x.2]
@[simp] theorem imm_brks (xs : List (Option Lab × Lab)) : immAll (xs.map brkD) = true := by
  induction xs with
  | nil => rfl
  | cons p ps ih => simp [brkD, ih]

@[simp] theorem lay_pc (p : Pc) : lay p.d = true := by
  cases p with
  | old a b => cases b <;> simp [Pc.d]
  | _ => simp [Pc.d]
theorem dep_pc (p : Pc) : dep p.d ≤ 1 := by
  cases p with
  | old a b => cases b <;> simp [Pc.d]
  | _ => simp [Pc.d]
@[simp] theorem lays_pcs (ps : List Pc) : lays (pcsD ps) = true := by
  induction ps with
  | nil => rfl
  | cons p ps ih => simpa [pcsD] using ih
theorem deps_pcs1 (ps : List Pc) : deps (pcsD ps) ≤ 1 := by
  induction ps with
  | nil => simp [pcsD]
  | cons p ps ih =>
    have := dep_pc p
    simp only [pcsD, List.map_cons, deps]
    exact Nat.max_le.mpr ⟨this, ih⟩
@[simp] theorem deps_pcs {n : Nat} (ps : List Pc) (h : 1 ≤ n) : deps (pcsD ps) ≤ n := Nat.le_trans (deps_pcs1 ps) h
@[simp] theorem dep_pc' {n : Nat} (p : Pc) (h : 1 ≤ n) : dep p.d ≤ n := Nat.le_trans (dep_pc p) h
@[simp] theorem pcsD_nil : pcsD [] = [] := rfl
@[simp] theorem pcsD_cons (p : Pc) (ps : List Pc) : pcsD (p :: ps) = p.d :: pcsD ps := rfl
@[simp] theorem pcsD_app (ps qs : List Pc) : pcsD (ps ++ qs) = pcsD ps ++ pcsD qs := by simp [pcsD]
@[simp] theorem pcsD_len (ps : List Pc) : (pcsD ps).length = ps.length := by simp [pcsD]
@[simp] theorem isNon_pc (p : Pc) : isNon p.d = false := by cases p <;> rfl

@[simp] theorem set_pcs (ps : List Pc) (a b : D) : (pcsD ps ++ [a]).set ps.length b = pcsD ps ++ [b] := by
  have := set_app_len (pcsD ps) a b
  rwa [pcsD_len] at this

/-! ### promises -/
def C_size_of : Ctr := fun ds Q => ∃ p : Pc, ds = [p.d] ∧ Q (.v 2 (oD p.size))
def C_first_label : Ctr := fun ds Q => ∃ p : Pc, ds = [p.d] ∧ Q (.v 2 (oL p.first))
def C_last_label : Ctr := fun ds Q => ∃ p : Pc, ds = [p.d] ∧ Q (.v 2 p.lastD)
def C_welded : Ctr := fun ds Q => ∃ p q : Pc, ds = [p.d, q.d] ∧ p.isOpen = false ∧ Q (.v 2 (match weld p q with
  | none => .non
  | some b => b.d))
def C_normal : Ctr := fun ds Q => ∃ (ps : List Pc) (tu : Bool), ds = [seqOf tu (pcsD ps)] ∧ closedF ps = true ∧ ps.length < 1000 ∧ Q (.own (pcsD (norm ps)))
/-- tuples that are no pieces, by their form -/
inductive OddP where
  | new2 | old1 | gap | nil | cap | top3
def OddP.d : OddP → D
  | .new2 => .tup [.str "new", .int 1, .int 4]
  | .old1 => .tup [.str "old", .int 2]
  | .gap => .tup [.str "gap", .int 1, .int 2]
  | .nil => .tup []
  | .cap => .tup [.str "Top", .int 1]
  | .top3 => .tup [.str "top", .int 1, .int 1]
/-- an item of a list of pieces -/
inductive Pit where
  | pc (p : Pc) | odd (o : OddP)
def Pit.d : Pit → D
  | .pc p => p.d
  | .odd o => o.d
def Pit.valid : Pit → Bool
  | .pc p => p.valid
  | .odd _ => false
theorem Pit.d_pc (p : Pc) : (Pit.pc p).d = p.d := rfl
@[simp] theorem Pit.imm_d (it : Pit) : it.d.imm = true := by
  cases it with
  | pc p => exact Pc.imm_d p
  | odd o => cases o <;> rfl
def C_is_piece : Ctr := fun ds Q => ∃ p : Pit, ds = [p.d] ∧ Q (.v 2 (.bl p.valid))
def C_may_follow : Ctr := fun ds Q => ∃ (b : Option Pc) (p : Pc), ds = [(match b with
  | none => D.non
  | some q => q.d), p.d] ∧ (∀ q, b = some q → q.isOpen = false) ∧ Q (.v 2 (.bl (match b with
  | none => true
  | some q => mayF q p)))
def C_check_pieces : Ctr := fun ds Q => ∃ (ps : List Pc) (tu : Bool), ds = [seqOf tu (pcsD ps)] ∧ okPcs ps = true ∧ ps.length < 1000 ∧ Q (.v 2 .non)
def C_Layout___init__ : CtrI := fun ds Q => ∃ (ps : List Pc) (tu : Bool), ds = [seqOf tu (pcsD ps)] ∧ okPcs ps = true ∧ ps.length < 1000 ∧ (norm ps).length ≤ 60 ∧ Q [.lst (pcsD (norm ps))]
def C_Layout_plain : Ctr := fun ds Q => ds = [.cls 0] ∧ Q (.v 2 (layD [.old 0 none]))
def C_Layout_pieces : Ctr := fun ds Q => ∃ ps : List Pc, ds = [layD ps] ∧ Q (.own (pcsD ps))
def C_is_break : Ctr := fun ds Q => ∃ (b : Option Lab) (a : Lab), ds = [oL b, labD a] ∧ Q (.v 2 (.bl (brkP b a)))
def C_breaks : Ctr := fun ds Q => ∃ ps : List Pc, ds = [layD ps] ∧ closedF ps = true ∧ ps.length < 1000 ∧ Q (.own ((brks ps).map brkD))
end PR
/-! T1: the readings of the program (printed by mkt.py). -/
namespace PR
open PySem PySem.Spec PyProof.Rows L2 DL
abbrev N_size_of : List Str := ["piece", "count", "first", "last"]
abbrev P_size_of : List Str := ["piece"]
def t_size_of : DTS := (dMatch (dVar 0) [⟨(.seq [(.val "top"), (.cap (some "count"))]), [1], (dRet (dVar 1))⟩, ⟨(.seq [(.val "old"), (.cap (some "first")), (.cap (some "last"))]), [2, 3], (dRet (dIfE (tV (dIsN (dVar 3))) (dK .non) (dOp fAdd (dOp fSub (dVar 3) (dVar 2)) (dK (.int 1)))))⟩, ⟨(.seq [(.cap none), (.cap none), (.cap none), (.cap (some "count"))]), [1], (dRet (dVar 1))⟩])
abbrev N_first_label : List Str := ["piece", "first", "low", "high"]
abbrev P_first_label : List Str := ["piece"]
def t_first_label : DTS := (dMatch (dVar 0) [⟨(.seq [(.val "top"), (.cap none)]), [], (dRet (dK .non))⟩, ⟨(.seq [(.val "old"), (.cap (some "first")), (.cap none)]), [1], (dRet (dTup (aCons (dVar 1) (aCons (dVar 1) aNil))))⟩, ⟨(.seq [(.cap none), (.cap (some "low")), (.cap (some "high")), (.cap none)]), [2, 3], (dRet (dTup (aCons (dVar 2) (aCons (dVar 3) aNil))))⟩])
abbrev N_last_label : List Str := ["piece"]
abbrev P_last_label : List Str := ["piece"]
def t_last_label : DTS := (dRet (dIfE (tV (dOp fEq (dIxK 0 (dVar 0)) (dK (.str "old")))) (dTup (aCons (dIxK 2 (dVar 0)) (aCons (dIxK 2 (dVar 0)) aNil))) (dCall C_first_label [] (aCons (dVar 0) aNil))))
abbrev N_welded : List Str := ["one", "other"]
abbrev P_welded : List Str := ["one", "other"]
def t_welded : DTS := (dSeq (dIf (tV (dOp fNe (dIxK 0 (dVar 0)) (dIxK 0 (dVar 1)))) (dRet (dK .non)) dNext) (dSeq (dIf (tV (dOp fEq (dIxK 0 (dVar 0)) (dK (.str "top")))) (dRet (dTup (aCons (dK (.str "top")) (aCons (dOp fAdd (dIxK 1 (dVar 0)) (dIxK 1 (dVar 1))) aNil)))) dNext) (dSeq (dIf (tV (dOp fEq (dIxK 0 (dVar 0)) (dK (.str "old")))) (dRet (dIfE (tV (dOp fEq (dOp fAdd (dIxK 2 (dVar 0)) (dK (.int 1))) (dIxK 1 (dVar 1)))) (dTup (aCons (dK (.str "old")) (aCons (dIxK 1 (dVar 0)) (aCons (dIxK 2 (dVar 1)) aNil)))) (dK .non))) dNext) (dRet (dIfE (tV (dOp fEq (dSl (dVar 0) oNone (oSome (dK (.int 3)))) (dSl (dVar 1) oNone (oSome (dK (.int 3)))))) (dTup (aStar (dSl (dVar 0) oNone (oSome (dK (.int 3)))) (aCons (dOp fAdd (dIxK 3 (dVar 0)) (dIxK 3 (dVar 1))) aNil))) (dK .non))))))
abbrev N_normal : List Str := ["pieces", "found", "piece", "both"]
abbrev P_normal : List Str := ["pieces"]
def lb1_normal : DTS := (dSeq (dSet 3 (dIfE (tV (dOp fNe (dVar 1) (dLst aNil))) (dCall C_welded [] (aCons (dIxL (dVar 1)) (aCons (dVar 2) aNil))) (dK .non))) (dIf (tV (dIsN (dVar 3))) (dApp 1 (dVar 2)) (dAsg (dVar 3) (gSub 1 (dNeg (dK (.int 1)))))))
theorem lb1_normal_e (E : DEnds) (τ : DSt) : lb1_normal E τ = (dSeq (dSet 3 (dIfE (tV (dOp fNe (dVar 1) (dLst aNil))) (dCall C_welded [] (aCons (dIxL (dVar 1)) (aCons (dVar 2) aNil))) (dK .non))) (dIf (tV (dIsN (dVar 3))) (dApp 1 (dVar 2)) (dAsg (dVar 3) (gSub 1 (dNeg (dK (.int 1))))))) E τ := rfl
def t_normal : DTS := (dSeq (dSetO 1 (dLst aNil)) (dSeq (dFor (dVar 0) (gN 2) lb1_normal) (dRetOwn 1)))
abbrev N_is_piece : List Str := ["piece", "count", "first", "last", "low", "high"]
abbrev P_is_piece : List Str := ["piece"]
def t_is_piece : DTS := (dSeq (dMatch (dVar 0) [⟨(.seq [(.val "top"), (.cap (some "count"))]), [1], (dRet (dOp fGe (dVar 1) (dK (.int 1))))⟩, ⟨(.seq [(.val "old"), (.cap (some "first")), (.cap (some "last"))]), [2, 3], (dRet (vAnd (dOp fLe (dK (.int 0)) (dVar 2)) (vOr (dIsN (dVar 3)) (dOp fLe (dVar 2) (dVar 3)))))⟩, ⟨(.seq [(.val "new"), (.cap (some "low")), (.cap (some "high")), (.cap (some "count"))]), [4, 5, 1], (dRet (vAnd (dChain pLe pLt (dK (.int 0)) (dVar 4) (dVar 5)) (dOp fGe (dVar 1) (dK (.int 1)))))⟩]) (dRet (dK (.bl false))))
abbrev N_may_follow : List Str := ["before", "piece", "left", "right"]
abbrev P_may_follow : List Str := ["before", "piece"]
def t_may_follow : DTS := (dSeq (dIf (tV (dIsN (dVar 0))) (dRet (dK (.bl true))) dNext) (dSeq (dIf (tV (dOp fEq (dIxK 0 (dVar 0)) (dK (.str "top")))) (dRet (dK (.bl true))) dNext) (dSeq (dIf (tV (dOp fEq (dIxK 0 (dVar 1)) (dK (.str "top")))) (dRet (dK (.bl false))) dNext) (dSeq (dPar 2 3 false false (dCall C_last_label [] (aCons (dVar 0) aNil)) (dCall C_first_label [] (aCons (dVar 1) aNil))) (dSeq (dIf (tvOr (tV (dOp fGt (dIxK 0 (dVar 2)) (dIxK 0 (dVar 3)))) (tV (dOp fGt (dIxK 1 (dVar 2)) (dIxK 1 (dVar 3))))) (dRet (dK (.bl false))) dNext) (dRet (vOr (dOp fNe (dIxK 0 (dVar 0)) (dK (.str "old"))) (vOr (dOp fNe (dIxK 0 (dVar 1)) (dK (.str "old"))) (dOp fNe (dVar 2) (dVar 3))))))))))
abbrev N_check_pieces : List Str := ["pieces", "before", "at", "piece"]
abbrev P_check_pieces : List Str := ["pieces"]
def lb1_check_pieces : DTS := (dSeq (dIf (tvOr (tvNot (tV (dCall C_is_piece [] (aCons (dVar 3) aNil)))) (tvOr (tvAnd (tV (dNotN (dVar 1))) (tV (dIsN (dCall C_size_of [] (aCons (dVar 1) aNil))))) (tvNot (tV (dCall C_may_follow [] (aCons (dVar 1) (aCons (dVar 3) aNil))))))) dNever dNext) (dSet 1 (dVar 3)))
theorem lb1_check_pieces_e (E : DEnds) (τ : DSt) : lb1_check_pieces E τ = (dSeq (dIf (tvOr (tvNot (tV (dCall C_is_piece [] (aCons (dVar 3) aNil)))) (tvOr (tvAnd (tV (dNotN (dVar 1))) (tV (dIsN (dCall C_size_of [] (aCons (dVar 1) aNil))))) (tvNot (tV (dCall C_may_follow [] (aCons (dVar 1) (aCons (dVar 3) aNil))))))) dNever dNext) (dSet 1 (dVar 3))) E τ := rfl
def t_check_pieces : DTS := (dSeq (dSet 1 (dK .non)) (dSeq (dForE (aCons (dVar 0) aNil) (gT 2 (gsCons (gN 2) (gsCons (gN 3) gsNil))) lb1_check_pieces) (dIf (tvOr (tV (dIsN (dVar 1))) (tV (dNotN (dCall C_size_of [] (aCons (dVar 1) aNil))))) dNever dNext)))
abbrev N_Layout___init__ : List Str := ["self", "pieces"]
abbrev P_Layout___init__ : List Str := ["self", "pieces"]
def t_Layout___init__ : DTS := (dSeq (dDrop (dCall C_check_pieces [] (aCons (dVar 1) aNil))) (dSeq (dPutF 0 0 (dCall C_normal [] (aCons (dVar 1) aNil))) (dIf (tV (dOp fGt (dCB fLen (aCons (dFldI 0 0) aNil)) (dK (.int 60)))) dNever dNext)))
abbrev N_Layout_plain : List Str := ["cls"]
abbrev P_Layout_plain : List Str := ["cls"]
def t_Layout_plain : DTS := (dRet (dMakeL 0 0 C_Layout___init__ [] (aCons (dK (.tup [.tup [.str "old", .int 0, .non]])) aNil)))
abbrev N_Layout_pieces : List Str := ["self"]
abbrev P_Layout_pieces : List Str := ["self"]
def t_Layout_pieces : DTS := (dRet (dCB fList (aCons (dFld 0 0 (dVar 0)) aNil)))
abbrev N_is_break : List Str := ["before", "after"]
abbrev P_is_break : List Str := ["before", "after"]
def t_is_break : DTS := (dSeq (dIf (tV (dIsN (dVar 0))) (dRet (dOp fNe (dVar 1) (dTup (aCons (dK (.int 0)) (aCons (dK (.int 0)) aNil))))) dNext) (dSeq (dIf (tvOr (tV (dOp fEq (dIxK 0 (dVar 0)) (dIxK 0 (dVar 1)))) (tV (dOp fEq (dIxK 1 (dVar 0)) (dIxK 1 (dVar 1))))) (dRet (dK (.bl false))) dNext) (dRet (vOr (dOp fLt (dIxK 0 (dVar 0)) (dIxK 1 (dVar 0))) (vOr (dOp fLt (dIxK 0 (dVar 1)) (dIxK 1 (dVar 1))) (dOp fNe (dOp fAdd (dIxK 0 (dVar 0)) (dK (.int 1))) (dIxK 0 (dVar 1))))))))
abbrev N_breaks : List Str := ["layout", "found", "before", "piece", "after"]
abbrev P_breaks : List Str := ["layout"]
def lb1_breaks : DTS := (dIf (tV (dOp fNe (dIxK 0 (dVar 3)) (dK (.str "top")))) (dSeq (dSet 4 (dCall C_first_label [] (aCons (dVar 3) aNil))) (dSeq (dIf (tV (dCall C_is_break [] (aCons (dVar 2) (aCons (dVar 4) aNil)))) (dApp 1 (dTup (aCons (dVar 2) (aCons (dVar 4) aNil)))) dNext) (dSet 2 (dCall C_last_label [] (aCons (dVar 3) aNil))))) dNext)
theorem lb1_breaks_e (E : DEnds) (τ : DSt) : lb1_breaks E τ = (dIf (tV (dOp fNe (dIxK 0 (dVar 3)) (dK (.str "top")))) (dSeq (dSet 4 (dCall C_first_label [] (aCons (dVar 3) aNil))) (dSeq (dIf (tV (dCall C_is_break [] (aCons (dVar 2) (aCons (dVar 4) aNil)))) (dApp 1 (dTup (aCons (dVar 2) (aCons (dVar 4) aNil)))) dNext) (dSet 2 (dCall C_last_label [] (aCons (dVar 3) aNil))))) dNext) E τ := rfl
def t_breaks : DTS := (dSeq (dPar 1 2 true false (dLst aNil) (dK .non)) (dSeq (dFor (dMeth 0 C_Layout_pieces [] (dVar 0) aNil) (gN 3) lb1_breaks) (dRetOwn 1)))
end PR
/-! P1: what the readings do: pieces. -/
namespace PR
open PySem PySem.Spec PyProof.Rows L2 DL
abbrev Pure (C : Ctr) (t : DTS) (N : List Str) : Prop := ∀ ds QD, C ds QD → t { nx := fun _ => QD (.v 2 .non), rt := QD } (startD N ds)
theorem pure_size_of : Pure C_size_of t_size_of N_size_of := by
  rintro ds QD ⟨p, rfl, q⟩
  cases p with
  | top n => simpa [t_size_of, Pc.size, Pc.d] using q
  | old a b => cases b <;> simpa [t_size_of, Pc.size, Pc.d] using q
  | new l h n => simpa [t_size_of, Pc.size, Pc.d] using q
theorem pure_first_label : Pure C_first_label t_first_label N_first_label := by
  rintro ds QD ⟨p, rfl, q⟩
  cases p with
  | top n => simpa [t_first_label, Pc.first, Pc.d] using q
  | old a b => cases b <;> simpa [t_first_label, Pc.first, Pc.d, labD] using q
  | new l h n => simpa [t_first_label, Pc.first, Pc.d, labD] using q
theorem pure_last_label : Pure C_last_label t_last_label N_last_label := by
  rintro ds QD ⟨p, rfl, q⟩
  cases p with
  | top n =>
    simp [t_last_label, Pc.d]
    exact ⟨.top n, rfl, by simpa [Pc.first, Pc.lastD, Pc.last] using q⟩
  | old a b => cases b <;> simpa [t_last_label, Pc.lastD, Pc.last, Pc.d, labD] using q
  | new l h n =>
    simp [t_last_label, Pc.d]
    exact ⟨.new l h n, rfl, by simpa [Pc.first, Pc.lastD, Pc.last, labD] using q⟩
theorem pure_welded : Pure C_welded t_welded N_welded := by
  rintro ds QD ⟨p, p', rfl, hp, q⟩
  cases p with
  | top n => cases p' with
    | top m => simpa [t_welded, weld, Pc.d] using q
    | old a b => cases b <;> simpa [t_welded, weld, Pc.d] using q
    | new l h m => simpa [t_welded, weld, Pc.d] using q
  | old a b => cases b with
    | none => cases hp
    | some b => cases p' with
      | top m => simpa [t_welded, weld, Pc.d] using q
      | old c d =>
        by_cases h : b + 1 = c
        · cases d <;> simpa [t_welded, weld, Pc.d, h] using q
        · cases d <;> simpa [t_welded, weld, Pc.d, h] using q
      | new l h m => simpa [t_welded, weld, Pc.d] using q
  | new l h n => cases p' with
    | top m => simpa [t_welded, weld, Pc.d] using q
    | old a b => cases b <;> simpa [t_welded, weld, Pc.d] using q
    | new l' h' m =>
      by_cases e : l = l' ∧ h = h'
      · obtain ⟨rfl, rfl⟩ := e
        simpa [t_welded, weld, Pc.d, cutG, HT.sIx, oSome, oNone] using q
      · simpa [t_welded, weld, Pc.d, cutG, HT.sIx, e] using q

theorem pure_is_piece : Pure C_is_piece t_is_piece N_is_piece := by
  rintro ds QD ⟨p, rfl, q⟩
  cases p with
  | odd o =>
    have q : QD (.v 2 (.bl false)) := q
    cases o <;> simp [t_is_piece, Pit.d, OddP.d] <;> exact q
  | pc p =>
    cases p with
    | top n => simpa [t_is_piece, Pit.d, Pit.valid, Pc.valid, Pc.d] using q
    | old a b =>
      cases b with
      | none => by_cases h : 0 ≤ a <;> simpa [t_is_piece, Pit.d, Pit.valid, Pc.valid, Pc.d, h] using q
      | some b => by_cases h : 0 ≤ a <;> simpa [t_is_piece, Pit.d, Pit.valid, Pc.valid, Pc.d, h] using q
    | new l h n =>
      by_cases h1 : 0 ≤ l <;> by_cases h2 : l < h <;> simpa [t_is_piece, Pit.d, Pit.valid, Pc.valid, Pc.d, h1, h2] using q
theorem pure_may_follow : Pure C_may_follow t_may_follow N_may_follow := by
  rintro ds QD ⟨b, p, rfl, hb, q⟩
  cases b with
  | none => simpa [t_may_follow] using q
  | some b =>
    have hb := hb b rfl
    cases b with
    | top n => simpa [t_may_follow, mayF, Pc.d] using q
    | old a b => cases b with
      | none => cases hb
      | some b => cases p with
        | top n => simpa [t_may_follow, mayF, Pc.d] using q
        | old c d =>
          simp [t_may_follow, Pc.d_old]
          refine ⟨.old a (some b), rfl, ?_⟩
          simp [Pc.lastD, Pc.last]
          refine ⟨.old c d, rfl, ?_⟩
          by_cases h1 : b > c
          · simpa [Pc.first, labD, mayF, Pc.last, h1] using q
          · by_cases h2 : b = c <;> simpa [Pc.first, labD, mayF, Pc.last, h1, h2] using q
        | new l h n =>
          simp [t_may_follow, Pc.d_old, Pc.d_new]
          refine ⟨.old a (some b), rfl, ?_⟩
          simp [Pc.lastD, Pc.last]
          refine ⟨.new l h n, rfl, ?_⟩
          by_cases h1 : b > l <;> by_cases h2 : b > h <;> simpa [Pc.first, labD, mayF, Pc.last, h1, h2] using q
    | new l h n => cases p with
      | top n => simpa [t_may_follow, mayF, Pc.d] using q
      | old c d =>
        simp [t_may_follow, Pc.d_old, Pc.d_new]
        refine ⟨.new l h n, rfl, ?_⟩
        simp [Pc.lastD, Pc.last]
        refine ⟨.old c d, rfl, ?_⟩
        by_cases h1 : l > c <;> by_cases h2 : h > c <;> simpa [Pc.first, labD, mayF, Pc.last, h1, h2] using q
      | new l' h' n' =>
        simp [t_may_follow, Pc.d_new]
        refine ⟨.new l h n, rfl, ?_⟩
        simp [Pc.lastD, Pc.last]
        refine ⟨.new l' h' n', rfl, ?_⟩
        by_cases h1 : l > l' <;> by_cases h2 : h > h' <;> simpa [Pc.first, labD, mayF, Pc.last, h1, h2] using q
theorem pure_is_break : Pure C_is_break t_is_break N_is_break := by
  rintro ds QD ⟨b, a, rfl, q⟩
  obtain ⟨a1, a2⟩ := a
  cases b with
  | none => simpa [t_is_break, brkP, labD] using q
  | some b =>
    obtain ⟨b1, b2⟩ := b
    by_cases h1 : b1 = a1 <;> by_cases h2 : b2 = a2 <;> by_cases h3 : b1 < b2 <;> by_cases h4 : a1 < a2 <;> simpa [t_is_break, brkP, labD, h1, h2, h3, h4] using q

theorem loop_normal {E : DEnds} {g : Nat} {s0 : Sl} (hg : g = 1 ∨ g = 2) : ∀ (ps found : List Pc) (s2 s3 : Sl), closedF ps = true → (∀ q, found.getLast? = some q → q.isOpen = false ∨ ps = []) → found.length + ps.length < 1000 →
    (∀ s2 s3, E.nx [s0, .own (pcsD (ps.foldl normF found)), s2, s3]) → forRec g (gN 2) lb1_normal E (pcsD ps) [s0, .own (pcsD found), s2, s3]
  | [], found, s2, s3, _, _, _, h => by simpa using h s2 s3
  | p :: ps, found, s2, s3, hc, hf, hl, h => by
    have hc' : closedF ps = true := by
      cases ps with
      | nil => rfl
      | cons q ps => simp [closedF] at hc; exact hc.2
    have hp : p.isOpen = false ∨ ps = [] := by
      cases ps with
      | nil => exact .inr rfl
      | cons q ps => simp [closedF] at hc; exact .inl hc.1
    rcases List.eq_nil_or_concat found with rfl | ⟨init, q, rfl⟩
    · have := loop_normal (E := E) (g := g) (s0 := s0) hg ps [p] (.v 2 p.d) (.v 2 .non) hc' (by simpa using hp) (by simp at hl ⊢; omega) (by simpa [normF] using h)
      simpa [lb1_normal_e, up_g hg] using this
    · have hq : q.isOpen = false := by simpa using hf q (by simp)
      simp [lb1_normal_e, up_g hg]
      refine ⟨q, p, by simp, hq, ?_⟩
      cases hw : weld q p with
      | none =>
        have := loop_normal (E := E) (g := g) (s0 := s0) hg ps (init ++ [q] ++ [p]) (.v 2 p.d) (.v 2 .non) hc' (by simpa using hp) (by simp at hl ⊢; omega) (by simpa [normF, hw] using h)
        simpa [show init.length + 1 < 1000000 by simp at hl; omega] using this
      | some b =>
        have hb : b.isOpen = p.isOpen := by
          cases q with
          | top n => cases p <;> simp [weld] at hw; subst hw; rfl
          | old a b' => cases b' with
            | none => cases hq
            | some b' => cases p <;> simp [weld] at hw; obtain ⟨_, rfl⟩ := hw; simp
          | new l h n => cases p <;> simp [weld] at hw; obtain ⟨_, rfl⟩ := hw; rfl
        have := loop_normal (E := E) (g := g) (s0 := s0) hg ps (init ++ [b]) (.v 2 p.d) (.v 2 b.d) hc' (by simpa [hb] using hp) (by simp at hl ⊢; omega) (by simpa [normF, hw] using h)
        simpa using this
theorem pure_normal : Pure C_normal t_normal N_normal := by
  rintro ds QD ⟨ps, tu, rfl, hc, hl, q⟩
  have := fun g s0 hg => loop_normal (E := { nx := fun τ => dRetOwn 1 { nx := fun _ => QD (.v 2 .non), rt := QD } τ, rt := QD }) (g := g) (s0 := s0) hg ps [] .un .un hc (by simp) (by simpa using hl) (fun _ _ => by simpa [norm, pcsD] using q)
  simp [t_normal]
  cases tu <;> simp [seqOf] <;> exact this _ _ (by simp)

def bD : Option Pc → D
  | none => .non
  | some q => q.d
theorem bD_none : bD none = .non := rfl
theorem bD_some (q : Pc) : bD (some q) = q.d := rfl
theorem loop_check {E : DEnds} {s0 : Sl} {g : Nat} (hg : g = 1 ∨ g = 2) : ∀ (ps : List Pc) (b : Option Pc) (i : Int) (s2 s3 : Sl), okFrom b ps = true → (∀ (p : Pc) (s2 s3 : Sl), p.isOpen = true → E.nx [s0, .v 2 p.d, s2, s3]) →
    forRec g (gT 2 (gsCons (gN 2) (gsCons (gN 3) gsNil))) lb1_check_pieces E (enumL i (pcsD ps)) [s0, .v 2 (bD b), s2, s3]
  | [], none, i, s2, s3, hb, h => by simp [okFrom] at hb
  | [], some q, i, s2, s3, hb, h => by simpa [bD_some] using h q s2 s3 hb
  | p :: ps, b, i, s2, s3, hb, h => by
    rw [okFrom_cons] at hb
    simp only [Bool.and_eq_true] at hb
    obtain ⟨⟨h1, h2⟩, h3⟩ := hb
    have ih := loop_check (E := E) (s0 := s0) hg ps (some p) (i + 1) (.v 2 (.int i)) (.v 2 p.d) h3 h
    rcases hg with rfl | rfl
    all_goals
      simp [lb1_check_pieces_e]
      refine ⟨.pc p, rfl, ?_⟩
      have h1 : (Pit.pc p).valid = true := h1
      cases b with
      | none =>
        simp [bD_none, h1]
        exact ⟨none, p, rfl, by simp, by simpa [bD_some] using ih⟩
      | some q =>
        simp only [Bool.and_eq_true, Bool.not_eq_true'] at h2
        obtain ⟨h4, h5⟩ := h2
        simp [bD_some, h1]
        refine ⟨q, rfl, ?_⟩
        have e : isNon (oD q.size) = false := by
          cases q with
          | old a c => cases c <;> simp [Pc.size] at h4 ⊢
          | _ => rfl
        simp [e]
        exact ⟨some q, p, rfl, by simpa using h4, by simpa [h5, bD_some] using ih⟩
theorem pure_check_pieces : Pure C_check_pieces t_check_pieces N_check_pieces := by
  rintro ds QD ⟨ps, tu, rfl, hc, hl, q⟩
  have key : ∀ (g : Nat) (s0 : Sl), (g = 1 ∨ g = 2) → _ := fun g s0 hg => loop_check (E := { nx := fun τ => dIf (tvOr (tV (dIsN (dVar 1))) (tV (dNotN (dCall C_size_of [] (aCons (dVar 1) aNil))))) dNever dNext { nx := fun _ => QD (.v 2 .non), rt := QD } τ, rt := QD }) (s0 := s0) (g := g) hg ps none 0 .un .un hc (fun p s2 s3 hp => by
    cases p with
    | old a b =>
      cases b with
      | none =>
        simp [Pc.d_old]
        exact ⟨.old a none, rfl, by simpa [Pc.size] using q⟩
      | some b => simp at hp
    | _ => simp at hp)
  simp [t_check_pieces]
  cases tu <;> simp [seqOf] <;> exact key _ _ (by simp)
theorem pure_Layout_pieces : Pure C_Layout_pieces t_Layout_pieces N_Layout_pieces := by
  rintro ds QD ⟨ps, rfl, q⟩
  simpa [t_Layout_pieces] using q
theorem pure_Layout___init__ : ∀ ds QD, C_Layout___init__ ds QD → t_Layout___init__ { nx := endI 0 FS0.length QD, rt := fun _ => False } (startI N_Layout___init__ 0 ds) := by
  rintro ds QD ⟨ps, tu, rfl, h1, h2, h3, q⟩
  have hc : closedF ps = true := by
    have : ∀ (ps : List Pc) (b : Option Pc), okFrom b ps = true → closedF ps = true := by
      intro ps
      induction ps with
      | nil => intros; rfl
      | cons p ps ih =>
        intro b hb
        rw [okFrom_cons] at hb
        simp only [Bool.and_eq_true] at hb
        cases ps with
        | nil => rfl
        | cons r ps =>
          have h3 := hb.2
          have := ih _ h3
          rw [okFrom_cons] at h3
          simp only [Bool.and_eq_true] at h3
          simp only [closedF, Bool.and_eq_true]
          exact ⟨h3.1.2.1, this⟩
    exact this ps none h1
  simp [t_Layout___init__]
  refine ⟨ps, tu, rfl, h1, h2, ?_⟩
  refine ⟨ps, tu, rfl, hc, h2, ?_⟩
  simp
  exact ⟨by omega, q⟩
theorem pure_Layout_plain : Pure C_Layout_plain t_Layout_plain N_Layout_plain := by
  rintro ds QD ⟨rfl, q⟩
  simp [t_Layout_plain]
  exact ⟨[.old 0 none], true, rfl, rfl, by decide, by decide, q⟩
theorem loop_breaks {E : DEnds} {g : Nat} {s0 : Sl} (hg : g = 1 ∨ g = 2) : ∀ (ps : List Pc) (acc : List (Option Lab × Lab)) (b : Option Lab) (s3 s4 : Sl), closedF ps = true → acc.length + ps.length < 1000 →
    (∀ s2 s3 s4, E.nx [s0, .own ((acc ++ brkF b ps).map brkD), s2, s3, s4]) → forRec g (gN 3) lb1_breaks E (pcsD ps) [s0, .own (acc.map brkD), .v 2 (oL b), s3, s4]
  | [], acc, b, s3, s4, hc, hl, h => by simpa [brkF] using h (.v 2 (oL b)) s3 s4
  | p :: ps, acc, b, s3, s4, hc, hl, h => by
    have hc' : closedF ps = true := by
      cases ps with
      | nil => rfl
      | cons q ps => simp [closedF] at hc; exact hc.2
    have hp : p.isOpen = false ∨ ps = [] := by
      cases ps with
      | nil => exact .inr rfl
      | cons q ps => simp [closedF] at hc; exact .inl hc.1
    have hl' : ∀ k : Nat, k ≤ 1 → acc.length + k + ps.length < 1000 := by
      simp at hl
      omega
    cases hf : p.first with
    | none =>
      cases p with
      | top n =>
        have := loop_breaks (E := E) (s0 := s0) hg ps acc b (.v 2 (Pc.top n).d) s4 hc' (by simpa using hl' 0 (by decide)) (by simpa [brkF, hf] using h)
        simpa [lb1_breaks_e, up_g hg, Pc.d_top] using this
      | old a c => cases hf
      | new l h n => cases hf
    | some a =>
      have e0 : ∃ w rest, p.d = .tup (.str (Str.ofString w) :: rest) ∧ w ≠ "top" := by
        cases p with
        | top n => cases hf
        | old a c => exact ⟨_, _, rfl, by decide⟩
        | new l h n => exact ⟨_, _, rfl, by decide⟩
      obtain ⟨w, rest, e0, e1⟩ := e0
      have fin : ∀ acc' : List (Option Lab × Lab), acc'.length ≤ acc.length + 1 → (∀ s2 s3 s4, E.nx [s0, .own ((acc' ++ brkF p.last ps).map brkD), s2, s3, s4]) →
          forRec g (gN 3) lb1_breaks E (pcsD ps) [s0, .own (acc'.map brkD), .v 2 p.lastD, .v 2 p.d, .v 2 (labD a)] := fun acc' hl2 h2 => by
        rcases hp with hp | rfl
        · have e2 : p.lastD = oL p.last := by
            cases p with
            | old a c => cases c <;> simp [Pc.lastD] at hp ⊢
            | _ => rfl
          rw [e2]
          have := hl' 1 (by decide)
          exact loop_breaks hg ps acc' p.last _ _ hc' (by omega) h2
        · simpa [brkF] using h2 _ _ _
      have i1 : p.lastD.imm = true := by
        cases p with
        | old a c => cases c <;> rfl
        | _ => rfl
      have ne : ¬ (w = "top") := e1
      have sh : lays rest = true ∧ deps rest ≤ 63 := by
        have h1 := lay_pc p
        have h2 := dep_pc p
        rw [e0] at h1 h2
        simp at h1 h2
        exact ⟨h1, by omega⟩
      simp [lb1_breaks_e, up_g hg]
      rw [e0]
      simp [ne]
      rw [← e0]
      refine ⟨p, rfl, ?_⟩
      simp [hf]
      refine ⟨b, a, rfl, ?_⟩
      cases hb : brkP b a with
      | true =>
        simp
        refine ⟨by simp at hl; omega, p, rfl, ?_⟩
        simp
        have := fin (acc ++ [(b, a)]) (by simp) (by simpa [brkF, hf, hb] using h)
        simpa [brkD] using this
      | false =>
        simp
        refine ⟨p, rfl, ?_⟩
        simp
        exact fin acc (by omega) (by simpa [brkF, hf, hb] using h)
theorem pure_breaks : Pure C_breaks t_breaks N_breaks := by
  rintro ds QD ⟨ps, rfl, hc, hl, q⟩
  simp [t_breaks]
  refine ⟨ps, rfl, ?_⟩
  simp
  exact loop_breaks (by simp) ps [] none _ _ hc (by simpa using hl) (fun _ _ _ => by simpa [brks] using q)
end PR
/-! M4: layouts that may be refused: promises. -/
namespace PR
open PySem PySem.Spec PyProof.Rows L2 DL
/-- a list that ends so at n is refused there -/
def endBad (b : Option Pc) (n : Nat) : Option Nat := match b with
  | none => some n
  | some p => if p.isOpen then none else some n
/-- where check_pieces refuses, b being the piece ahead -/
def badAt : Option Pc → Nat → List Pc → Option Nat
  | b, n, [] => endBad b n
  | b, n, p :: ps => if p.valid && (match b with
    | none => true
    | some q => !q.isOpen && mayF q p) then badAt (some p) (n + 1) ps else some n
theorem badAt_ok : ∀ (ps : List Pc) (b : Option Pc) (n : Nat), badAt b n ps = none ↔ okFrom b ps = true
  | [], none, n => by simp [badAt, endBad, okFrom]
  | [], some p, n => by cases h : p.isOpen <;> simp [badAt, endBad, okFrom, h]
  | p :: ps, b, n => by
    have ih := badAt_ok ps (some p) (n + 1)
    rw [okFrom_cons]
    unfold badAt
    cases b with
    | none => cases hv : p.valid <;> simp [ih]
    | some q => cases hv : p.valid <;> cases ho : q.isOpen <;> cases hm : mayF q p <;> simp [ih, ho, hm]
theorem badAt_pcs (ps : List Pc) : badAt none 0 ps = none ↔ okPcs ps = true := badAt_ok ps none 0
abbrev eBadPieces (k : Int) : Er := mkEr "BadPieces" ["at"] [.int k]
abbrev eTooMany : Er := mkEr "TooManyPieces" ["most"] [.int 60]
theorem ok_badpieces (k : Int) : okEr (eBadPieces k) := okEr_1 rfl
theorem ok_toomany : okEr eTooMany := okEr_1 rfl
def pitsD (its : List Pit) : List D := its.map Pit.d
@[simp] theorem pitsD_nil : pitsD [] = [] := rfl
@[simp] theorem pitsD_cons (p : Pit) (ps : List Pit) : pitsD (p :: ps) = p.d :: pitsD ps := rfl
@[simp] theorem pitsD_app (ps qs : List Pit) : pitsD (ps ++ qs) = pitsD ps ++ pitsD qs := by simp [pitsD]
@[simp] theorem pitsD_len (ps : List Pit) : (pitsD ps).length = ps.length := by simp [pitsD]
theorem pitsD_pcs (ps : List Pc) : pitsD (ps.map .pc) = pcsD ps := by simp [pitsD, pcsD, Function.comp_def, Pit.d]
@[simp] theorem imm_pits (ps : List Pit) : immAll (pitsD ps) = true := by
  induction ps with
  | nil => rfl
  | cons p ps ih => simpa [pitsD] using ih
/-- where check_pieces refuses, odd items and all -/
def badP : Option Pc → Nat → List Pit → Option Nat
  | b, n, [] => endBad b n
  | _, n, .odd _ :: _ => some n
  | b, n, .pc p :: ps => if p.valid && (match b with
    | none => true
    | some q => !q.isOpen && mayF q p) then badP (some p) (n + 1) ps else some n
theorem badP_pcs : ∀ (ps : List Pc) (b : Option Pc) (n : Nat), badP b n (ps.map .pc) = badAt b n ps
  | [], b, n => rfl
  | p :: ps, b, n => by
    show (if _ then badP (some p) (n + 1) (ps.map .pc) else some n) = badAt b n (p :: ps)
    rw [badP_pcs ps (some p) (n + 1)]
    rfl
theorem badP_none : ∀ (its : List Pit) (b : Option Pc) (n : Nat), badP b n its = none → ∃ ps : List Pc, its = ps.map .pc
  | [], b, n, _ => ⟨[], rfl⟩
  | .odd o :: its, b, n, h => by cases h
  | .pc p :: its, b, n, h => by
    have key : ∀ c : Bool, (if c = true then badP (some p) (n + 1) its else some n) = none → badP (some p) (n + 1) its = none := fun c h => by
      cases c
      · cases h
      · simpa using h
    obtain ⟨ps, rfl⟩ := badP_none its (some p) (n + 1) (key _ h)
    exact ⟨p :: ps, rfl⟩
theorem pc_inj : ∀ {ps qs : List Pc}, ps.map Pit.pc = qs.map Pit.pc → ps = qs
  | [], [], _ => rfl
  | [], d :: ds, h => by cases h
  | c :: cs, [], h => by cases h
  | c :: cs, d :: ds, h => by
    injection h with h1 h2
    injection h1 with h1
    rw [h1, pc_inj h2]
def X_check_pieces : CtrX := fun ds Q R => ∃ (its : List Pit) (tu : Bool), ds = [seqOf tu (pitsD its)] ∧ its.length < 1000 ∧ (badP none 0 its = none → Q (.v 2 .non)) ∧ (∀ k : Nat, badP none 0 its = some k → R (eBadPieces k))
def X_Layout___init__ : CtrXI := fun ds Q R => ∃ (its : List Pit) (tu : Bool), ds = [seqOf tu (pitsD its)] ∧ its.length < 1000 ∧ (∀ k : Nat, badP none 0 its = some k → R (eBadPieces k)) ∧
  ∀ ps : List Pc, its = ps.map .pc → badAt none 0 ps = none → ((norm ps).length ≤ 60 → Q [.lst (pcsD (norm ps))]) ∧ (60 < (norm ps).length → R eTooMany)
theorem xlay (ps : List Pc) (tu : Bool) {ds : List D} {Q : List D → Prop} {R : Er → Prop} (e : ds = [seqOf tu (pcsD ps)]) (hl : ps.length < 1000) (h1 : ∀ k : Nat, badAt none 0 ps = some k → R (eBadPieces k))
    (h2 : badAt none 0 ps = none → (norm ps).length ≤ 60 → Q [.lst (pcsD (norm ps))]) (h3 : badAt none 0 ps = none → 60 < (norm ps).length → R eTooMany) : X_Layout___init__ ds Q R :=
  ⟨ps.map .pc, tu, by rw [pitsD_pcs]; exact e, by rw [List.length_map]; exact hl, fun k z => h1 k (by rw [← badP_pcs]; exact z), fun qs z hb => by rw [← pc_inj z] at hb ⊢; exact ⟨h2 hb, h3 hb⟩⟩
theorem calm_check_pieces : ∀ ds Q, C_check_pieces ds Q → X_check_pieces ds Q fun _ => False := fun ds Q ⟨ps, tu, e, h, hl, q⟩ => ⟨ps.map .pc, tu, by rw [pitsD_pcs]; exact e, by rw [List.length_map]; exact hl, fun _ => q, fun k z => by rw [badP_pcs, (badAt_pcs ps).mpr h] at z; cases z⟩
theorem calm_Layout___init__ : ∀ ds Q, C_Layout___init__ ds Q → X_Layout___init__ ds Q fun _ => False := fun ds Q ⟨ps, tu, e, h, hl, hn, q⟩ =>
  xlay ps tu e hl (fun k z => by rw [(badAt_pcs ps).mpr h] at z; cases z) (fun _ _ => q) (fun _ z => by omega)
end PR
namespace PR
open PySem PySem.Spec PyProof.Rows L2 DL
def lbx1_check_pieces : DTS := (dSeq (dIf (tvOr (tvNot (tV (dCall C_is_piece [] (aCons (dVar 3) aNil)))) (tvOr (tvAnd (tV (dNotN (dVar 1))) (tV (dIsN (dCall C_size_of [] (aCons (dVar 1) aNil))))) (tvNot (tV (dCall C_may_follow [] (aCons (dVar 1) (aCons (dVar 3) aNil))))))) (dRaise "BadPieces" ["at"] (aCons (dVar 2) aNil)) dNext) (dSet 1 (dVar 3)))
theorem lbx1_check_pieces_e (E : DEnds) (τ : DSt) : lbx1_check_pieces E τ = (dSeq (dIf (tvOr (tvNot (tV (dCall C_is_piece [] (aCons (dVar 3) aNil)))) (tvOr (tvAnd (tV (dNotN (dVar 1))) (tV (dIsN (dCall C_size_of [] (aCons (dVar 1) aNil))))) (tvNot (tV (dCall C_may_follow [] (aCons (dVar 1) (aCons (dVar 3) aNil))))))) (dRaise "BadPieces" ["at"] (aCons (dVar 2) aNil)) dNext) (dSet 1 (dVar 3))) E τ := rfl
def tx_check_pieces : DTS := (dSeq (dSet 1 (dK .non)) (dSeq (dForE (aCons (dVar 0) aNil) (gT 2 (gsCons (gN 2) (gsCons (gN 3) gsNil))) lbx1_check_pieces) (dIf (tvOr (tV (dIsN (dVar 1))) (tV (dNotN (dCall C_size_of [] (aCons (dVar 1) aNil))))) (dRaise "BadPieces" ["at"] (aCons (dCB fLen (aCons (dVar 0) aNil)) aNil)) dNext)))
def tx_Layout___init__ : DTS := (dSeq (dDropX (dCallX X_check_pieces [] (aCons (dVar 1) aNil))) (dSeq (dPutF 0 0 (dCall C_normal [] (aCons (dVar 1) aNil))) (dIf (tV (dOp fGt (dCB fLen (aCons (dFldI 0 0) aNil)) (dK (.int 60)))) (dRaise "TooManyPieces" ["most"] (aCons (dK (.int 60)) aNil)) dNext)))
end PR
/-! P4: layouts that may be refused. -/
namespace PR
open PySem PySem.Spec PyProof.Rows L2 DL
theorem closed_of : ∀ (ps : List Pc) (b : Option Pc), okFrom b ps = true → closedF ps = true
  | [], _, _ => rfl
  | [p], _, _ => rfl
  | p :: r :: ps, b, h => by
    rw [okFrom_cons] at h
    simp only [Bool.and_eq_true] at h
    have h3 := h.2
    have ih := closed_of (r :: ps) (some p) h3
    rw [okFrom_cons] at h3
    simp only [Bool.and_eq_true] at h3
    simp only [closedF, Bool.and_eq_true]
    exact ⟨h3.1.2.1, ih⟩
theorem size_non (q : Pc) : isNon (oD q.size) = q.isOpen := by
  cases q with
  | old a c => cases c <;> rfl
  | _ => rfl
theorem loop_checkx {E : DEnds} {s0 : Sl} {g : Nat} (hg : g = 1 ∨ g = 2) : ∀ (ps : List Pit) (b : Option Pc) (n : Nat) (s2 s3 : Sl),
    (∀ (b' : Option Pc) (s2 s3 : Sl), badP b n ps = endBad b' (n + ps.length) → E.nx [s0, .v 2 (bD b'), s2, s3]) → (∀ k : Nat, badP b n ps = some k → k < n + ps.length → E.er (eBadPieces k)) →
    forRec g (gT 2 (gsCons (gN 2) (gsCons (gN 3) gsNil))) lbx1_check_pieces E (enumL (n : Int) (pitsD ps)) [s0, .v 2 (bD b), s2, s3]
  | [], b, n, s2, s3, hE, hR => by simpa using hE b s2 s3 rfl
  | .odd o :: ps, b, n, s2, s3, hE, hR => by
    have st : E.er (eBadPieces n) := hR n rfl (by simp)
    have en : enumL (n : Int) (pitsD (.odd o :: ps)) = .tup [.int n, (Pit.odd o).d] :: enumL ((n + 1 : Nat) : Int) (pitsD ps) := rfl
    rw [en]
    generalize hrest : enumL ((n + 1 : Nat) : Int) (pitsD ps) = rest at *
    have hv : (Pit.odd o).valid = false := rfl
    rcases hg with rfl | rfl
    all_goals
      simp [lbx1_check_pieces_e]
      refine ⟨.odd o, rfl, ?_⟩
      simpa [hv] using st
  | .pc p :: ps, b, n, s2, s3, hE, hR => by
    have step : ∀ (c : Bool), badP b n (.pc p :: ps) = (if c then badP (some p) (n + 1) ps else some n) → (c = true → forRec g (gT 2 (gsCons (gN 2) (gsCons (gN 3) gsNil))) lbx1_check_pieces E (enumL ((n + 1 : Nat) : Int) (pitsD ps)) [s0, .v 2 (bD (some p)), .v 2 (.int n), .v 2 p.d]) ∧ (c = false → E.er (eBadPieces n)) := by
      intro c hc
      refine ⟨fun z => ?_, fun z => ?_⟩
      · subst z
        refine loop_checkx hg ps (some p) (n + 1) _ _ (fun b' s2 s3 h => hE b' s2 s3 ?_) (fun k h hk => hR k (by rw [hc]; exact h) (by simp; omega))
        rw [hc, if_pos rfl, h]
        congr 1
        simp
        omega
      · subst z
        exact hR n (by rw [hc]; rfl) (by simp)
    have en : enumL (n : Int) (pitsD (.pc p :: ps)) = .tup [.int n, p.d] :: enumL ((n + 1 : Nat) : Int) (pitsD ps) := rfl
    rw [en]
    generalize hrest : enumL ((n + 1 : Nat) : Int) (pitsD ps) = rest at *
    rcases hg with rfl | rfl
    all_goals
      simp [lbx1_check_pieces_e]
      refine ⟨.pc p, rfl, ?_⟩
      have ev : (Pit.pc p).valid = p.valid := rfl
      rw [ev]
      cases hv : p.valid with
      | false =>
        obtain ⟨_, st⟩ := step false (by simp [badP, hv])
        simpa using st rfl
      | true =>
        cases b with
        | none =>
          obtain ⟨st, _⟩ := step true (by simp [badP, hv])
          simp [bD_none]
          exact ⟨none, p, rfl, by simp, by simpa [bD_some] using st rfl⟩
        | some q =>
          simp [bD_some]
          refine ⟨q, rfl, ?_⟩
          cases ho : q.isOpen with
          | true =>
            obtain ⟨_, st⟩ := step false (by simp [badP, hv, ho])
            simp [size_non, ho]
            simpa using st rfl
          | false =>
            simp [size_non, ho]
            refine ⟨some q, p, rfl, by simpa using ho, ?_⟩
            cases hm : mayF q p with
            | true =>
              obtain ⟨st, _⟩ := step true (by simp [badP, hv, ho, hm])
              simpa [bD_some, hm] using st rfl
            | false =>
              obtain ⟨_, st⟩ := step false (by simp [badP, hv, ho, hm])
              simpa [hm] using st rfl
theorem purex_check_pieces : PureX X_check_pieces tx_check_pieces N_check_pieces := by
  rintro ds QD QE ⟨ps, tu, rfl, hl, h1, h2⟩
  have fin : ∀ (g : Nat) (s0 : Sl) (hg : g = 1 ∨ g = 2) (E : DEnds), E.er = QE → (∀ (b' : Option Pc) (s2 s3 : Sl), badP none 0 ps = endBad b' ps.length → E.nx [s0, .v 2 (bD b'), s2, s3]) →
      forRec g (gT 2 (gsCons (gN 2) (gsCons (gN 3) gsNil))) lbx1_check_pieces E (enumL 0 (pitsD ps)) [s0, .v 2 .non, .un, .un] := fun g s0 hg E he hE =>
    loop_checkx (E := E) (s0 := s0) hg ps none 0 .un .un (fun b' s2 s3 h => hE b' s2 s3 (by simpa using h)) (fun k h _ => by rw [he]; exact h2 k h)
  have endx : ∀ (b' : Option Pc), badP none 0 ps = endBad b' ps.length → (b' = none → QE (eBadPieces ps.length)) ∧ (∀ p, b' = some p → p.isOpen = false → QE (eBadPieces ps.length)) ∧ (∀ p, b' = some p → p.isOpen = true → QD (.v 2 .non)) := fun b' h =>
    ⟨fun z => h2 _ (by rw [h, z]; rfl), fun p z ho => h2 _ (by rw [h, z]; simp [endBad, ho]), fun p z ho => h1 (by rw [h, z]; simp [endBad, ho])⟩
  simp [tx_check_pieces]
  cases tu
  all_goals
    simp [seqOf]
    refine fin _ _ (by simp) _ rfl fun b' s2 s3 h => ?_
    obtain ⟨e1, e2, e3⟩ := endx b' h
    cases b' with
    | none => simpa [bD_none] using e1 rfl
    | some p =>
      simp [bD_some]
      refine ⟨p, rfl, ?_⟩
      cases ho : p.isOpen with
      | true => simpa [size_non, ho] using e3 p rfl ho
      | false => simpa [size_non, ho] using e2 p rfl ho
theorem purexi_Layout___init__ : PureXI 0 FS0.length X_Layout___init__ tx_Layout___init__ N_Layout___init__ := by
  rintro ds QD QE ⟨its, tu, rfl, hl, h1, h2⟩
  simp [tx_Layout___init__]
  refine ⟨its, tu, rfl, hl, fun hb => ?_, h1⟩
  obtain ⟨ps, rfl⟩ := badP_none its none 0 hb
  rw [badP_pcs] at hb
  rw [List.length_map] at hl
  obtain ⟨h2, h3⟩ := h2 ps rfl hb
  have hc := closed_of ps none ((badAt_pcs ps).mp hb)
  rw [pitsD_pcs]
  refine ⟨ps, tu, rfl, hc, hl, ?_⟩
  simp
  by_cases h60 : 60 < (norm ps).length
  · rw [if_pos (by omega)]
    exact h3 h60
  · rw [if_neg (by omega)]
    exact h2 (by omega)
end PR
/-! Q2: rows and the pieces that they are rolled into, in plain Lean. -/
namespace PR
theorem rangeI_mem : ∀ (n : Nat) (v i : Int), i ∈ rangeI v n ↔ v ≤ i ∧ i < v + n
  | 0, v, i => by
    simp [rangeI]
    try omega
  | n + 1, v, i => by
    simp [rangeI, rangeI_mem n]
    omega
theorem rangeI_len : ∀ (n : Nat) (v : Int), (rangeI v n).length = n
  | 0, _ => rfl
  | n + 1, v => by simp [rangeI, rangeI_len n]
theorem rangeI_pw : ∀ (n : Nat) (v : Int), (rangeI v n).Pairwise (· < ·)
  | 0, _ => List.Pairwise.nil
  | n + 1, v => by
    simp [rangeI, rangeI_pw n]
    intro a ha
    have := (rangeI_mem n (v + 1) a).mp ha
    omega
theorem olds_pw (n : Nat) (v : Int) : ((rangeI v n).map fun i => ((i, i) : Lab)).Pairwise lle := by
  rw [List.pairwise_map]
  exact (rangeI_pw n v).imp fun {a b} h => ⟨Int.le_of_lt h, Int.le_of_lt h, fun _ _ => h⟩
theorem rollF_last (found : List Pc) (x : Option Lab) : ∃ q, (rollF found x).getLast? = some q ∧ q.isOpen = false ∧ (rollF found x).length ≤ found.length + 1 ∧ (∀ v, x = some (v, v) → ∃ a b, q = .old a (some b)) := by
  rcases List.eq_nil_or_concat found with rfl | ⟨init, q, rfl⟩
  · cases x with
    | none => exact ⟨.top 1, rfl, rfl, by simp [rollF], by simp⟩
    | some x =>
      obtain ⟨l, h⟩ := x
      by_cases e : l = h
      · subst e
        exact ⟨.old l (some l), by simp [rollF], rfl, by simp [rollF], fun _ _ => ⟨_, _, rfl⟩⟩
      · exact ⟨.new l h 1, by simp [rollF, e], rfl, by simp [rollF, e], by simp; omega⟩
  · cases x with
    | none => cases q <;> simp [rollF]
    | some x =>
      obtain ⟨l, h⟩ := x
      by_cases e : l = h
      · subst e
        cases q with
        | top n => exact ⟨.old l (some l), by simp [rollF], rfl, by simp [rollF], fun _ _ => ⟨_, _, rfl⟩⟩
        | new a b n => exact ⟨.old l (some l), by simp [rollF], rfl, by simp [rollF], fun _ _ => ⟨_, _, rfl⟩⟩
        | old a b => cases b with
          | none => exact ⟨.old l (some l), by simp [rollF], rfl, by simp [rollF], fun _ _ => ⟨_, _, rfl⟩⟩
          | some b =>
            by_cases e2 : b + 1 = l
            · exact ⟨.old a (some l), by simp [rollF, e2], rfl, by simp [rollF, e2], fun _ _ => ⟨_, _, rfl⟩⟩
            · exact ⟨.old l (some l), by simp [rollF, e2], rfl, by simp [rollF, e2], fun _ _ => ⟨_, _, rfl⟩⟩
      · have hv : ∀ v, some (l, h) = some (v, v) → False := by
          intro v z
          simp at z
          omega
        cases q with
        | top n => exact ⟨.new l h 1, by simp [rollF, e], rfl, by simp [rollF, e], fun v z => (hv v z).elim⟩
        | old a b => exact ⟨.new l h 1, by simp [rollF, e], rfl, by simp [rollF, e], fun v z => (hv v z).elim⟩
        | new l' h' n =>
          by_cases e2 : l' = l ∧ h' = h
          · exact ⟨.new l h (n + 1), by simp [rollF, e, e2], rfl, by simp [rollF, e, e2], fun v z => (hv v z).elim⟩
          · exact ⟨.new l h 1, by simp [rollF, e, e2], rfl, by simp [rollF, e, e2], fun v z => (hv v z).elim⟩
theorem fold_last : ∀ (rows : List (Option Lab)) (found : List Pc) (v : Int), rows.getLast? = some (some (v, v)) → ∃ init a b, rows.foldl rollF found = init ++ [.old a (some b)] ∧ (rows.foldl rollF found).length ≤ found.length + rows.length := by
  intro rows
  induction rows with
  | nil => intro found v h; cases h
  | cons x rows ih =>
    intro found v h
    obtain ⟨q, q1, _, q3, q4⟩ := rollF_last found x
    cases rows with
    | nil =>
      simp at h
      obtain ⟨a, b, rfl⟩ := q4 v h
      obtain ⟨init, e⟩ := List.getLast?_eq_some_iff.mp q1
      exact ⟨init, a, b, e, by simpa using q3⟩
    | cons y rows =>
      obtain ⟨init, a, b, e1, e2⟩ := ih (rollF found x) v (by simpa using h)
      refine ⟨init, a, b, e1, ?_⟩
      simp only [List.foldl_cons, List.length_cons] at e2 ⊢
      omega
/-- one piece behind another, both whole -/
def Adj (p q : Pc) : Prop := p.isOpen = false ∧ mayF p q = true ∧ weld p q = none
def chn : List Pc → Prop
  | [] => True
  | [_] => True
  | p :: q :: ps => Adj p q ∧ chn (q :: ps)
theorem chn_app {ps : List Pc} {q p : Pc} : chn (ps ++ [q] ++ [p]) ↔ chn (ps ++ [q]) ∧ Adj q p := by
  induction ps with
  | nil => simp [chn]
  | cons x ps ih =>
    cases ps with
    | nil => simp [chn]
    | cons y ps =>
      have e : x :: y :: ps ++ [q] ++ [p] = x :: y :: (ps ++ [q] ++ [p]) := rfl
      have e2 : x :: y :: ps ++ [q] = x :: y :: (ps ++ [q]) := rfl
      rw [e, e2]
      simp only [chn]
      have ih' : chn (y :: (ps ++ [q] ++ [p])) ↔ chn (y :: (ps ++ [q])) ∧ Adj q p := ih
      rw [ih', and_assoc]
def sameH : Pc → Pc → Prop
  | .top _, .top _ => True
  | .old a _, .old b _ => a = b
  | .new l h _, .new l' h' _ => l = l' ∧ h = h'
  | _, _ => False
theorem adj_same {p q q' : Pc} (h : sameH q q') (a : Adj p q) : Adj p q' := by
  obtain ⟨a1, a2, a3⟩ := a
  refine ⟨a1, ?_, ?_⟩
  · cases q <;> cases q' <;> simp [sameH] at h
    · simpa [mayF] using a2
    · subst h
      simpa [mayF, Pc.first] using a2
    · obtain ⟨rfl, rfl⟩ := h
      simpa [mayF, Pc.first] using a2
  · cases p with
    | top n => cases q <;> cases q' <;> simp [sameH] at h <;> simp_all [weld]
    | new l k n => cases q <;> cases q' <;> simp [sameH] at h <;> simp_all [weld]
    | old a b => cases b <;> cases q <;> cases q' <;> simp [sameH] at h <;> simp_all [weld]
theorem chn_last {ps : List Pc} {q q' : Pc} (h : sameH q q') (c : chn (ps ++ [q])) : chn (ps ++ [q']) := by
  rcases List.eq_nil_or_concat ps with rfl | ⟨init, r, rfl⟩
  · trivial
  · rw [List.concat_eq_append, chn_app] at c ⊢
    exact ⟨c.1, adj_same h c.2⟩
def endL : Option Lab → List Pc → Option Lab
  | b, [] => b
  | b, p :: ps => endL (match p.first with
    | none => b
    | some _ => p.last) ps
theorem brkF_app : ∀ (ps qs : List Pc) (b : Option Lab), brkF b (ps ++ qs) = brkF b ps ++ brkF (endL b ps) qs
  | [], qs, b => rfl
  | p :: ps, qs, b => by
    cases h : p.first with
    | none => simp [brkF, endL, h, brkF_app ps qs]
    | some a => simp [brkF, endL, h, brkF_app ps qs]
theorem endL_app : ∀ (ps qs : List Pc) (b : Option Lab), endL b (ps ++ qs) = endL (endL b ps) qs
  | [], qs, b => rfl
  | p :: ps, qs, b => by simp [endL, endL_app ps qs]
theorem brkR_app : ∀ (xs : List Lab) (a : Lab) (b : Option Lab), brkR b (xs ++ [a]) = brkR b xs ++ (if brkL (xs.getLast?.or b) a then [(xs.getLast?.or b, a)] else [])
  | [], a, b => by cases h : brkL b a <;> simp [brkR, h]
  | x :: xs, a, b => by
    have e : (x :: xs).getLast?.or b = xs.getLast?.or (some x) := by
      cases xs with
      | nil => rfl
      | cons y ys =>
        rw [List.getLast?_cons_cons]
        cases h : (y :: ys).getLast? with
        | none => simp at h
        | some z => rfl
    rw [List.cons_append, brkR, brkR, brkR_app xs a (some x), e, List.append_assoc]
theorem brk_same {b : Option Lab} {a : Lab} (hb : ∀ x, b = some x → labOk x) (ha : labOk a) : brkP b a = brkL b a := by
  cases b with
  | none => rfl
  | some x =>
    obtain ⟨h1, h2⟩ := hb x rfl
    obtain ⟨h3, h4⟩ := ha
    obtain ⟨x1, x2⟩ := x
    obtain ⟨a1, a2⟩ := a
    simp only [brkP, brkL] at *
    split
    · rfl
    · by_cases e1 : x1 = x2 <;> by_cases e2 : a1 = a2 <;> by_cases e3 : x1 + 1 = a1 <;> simp [e1, e2, e3] <;> omega
/-- what the fold keeps -/
structure RI (found : List Pc) (ls : List Lab) : Prop where
  va : ∀ p ∈ found, p.valid = true ∧ p.isOpen = false
  ch : chn found
  br : brkF none found = brkR none ls
  el : endL none found = ls.getLast?
  en : (ls = [] ∧ (found = [] ∨ ∃ n, found = [.top n])) ∨ ∃ y init q, ls.getLast? = some y ∧ found = init ++ [q] ∧ q.last = some y
theorem endL_snoc {init : List Pc} {q : Pc} {y : Lab} (b : Option Lab) (h : q.last = some y) : endL b (init ++ [q]) = some y := by
  rw [endL_app]
  cases q with
  | top n => cases h
  | old a c => cases c with
    | none => cases h
    | some c => simpa [endL, Pc.first] using h
  | new l k n => simpa [endL, Pc.first] using h
/-- a piece put behind -/
theorem RI.app {found : List Pc} {ls : List Lab} {a : Lab} {p : Pc} (h : RI found ls) (hp : p.first = some a) (hl : p.last = some a) (hv : p.valid = true) (ho : p.isOpen = false) (ha : labOk a) (hy : ∀ y, ls.getLast? = some y → labOk y)
    (hadj : ∀ init q, found = init ++ [q] → Adj q p) : RI (found ++ [p]) (ls ++ [a]) := by
  refine ⟨fun x hx => ?_, ?_, ?_, ?_, ?_⟩
  · rcases List.mem_append.mp hx with hx | hx
    · exact h.va x hx
    · obtain rfl := List.mem_singleton.mp hx
      exact ⟨hv, ho⟩
  · rcases List.eq_nil_or_concat found with rfl | ⟨init, q, rfl⟩
    · trivial
    · rw [List.concat_eq_append] at *
      rw [chn_app]
      exact ⟨h.ch, hadj init q rfl⟩
  · rw [brkF_app, brkR_app, h.br, h.el]
    simp [brkF, hp, brk_same (b := ls.getLast?) hy ha]
  · rw [endL_snoc none hl]
    simp
  · exact .inr ⟨a, found, p, by simp, rfl, hl⟩
/-- the last piece grown -/
theorem RI.grow {init : List Pc} {ls : List Lab} {a y : Lab} {p p' : Pc} (h : RI (init ++ [p]) ls) (hs : sameH p p') (hf : p.first = p'.first) (hly : ls.getLast? = some y) (hl : p'.last = some a) (hv : p'.valid = true) (ho : p'.isOpen = false) (hb : brkL (some y) a = false) : RI (init ++ [p']) (ls ++ [a]) := by
  refine ⟨fun x hx => ?_, chn_last hs h.ch, ?_, ?_, ?_⟩
  · rcases List.mem_append.mp hx with hx | hx
    · exact h.va x (List.mem_append_left _ hx)
    · obtain rfl := List.mem_singleton.mp hx
      exact ⟨hv, ho⟩
  · have e := h.br
    rw [brkF_app] at e ⊢
    rw [brkR_app, ← e, hly]
    simp [brkF, hf, hb]
  · rw [endL_snoc none hl]
    simp
  · exact .inr ⟨a, init, p', by simp, rfl, hl⟩

theorem RI.step {found : List Pc} {ls : List Lab} {a : Lab} (h : RI found ls) (ha : labOk a) (hall : ∀ y ∈ ls, labOk y) (hle : ∀ y, ls.getLast? = some y → lle y a) : RI (rollF found (some a)) (ls ++ [a]) := by
  obtain ⟨l, k⟩ := a
  obtain ⟨h0, hlk⟩ := ha
  have h0 : 0 ≤ l := h0
  have hlk : l ≤ k := hlk
  have hy : ∀ y, ls.getLast? = some y → labOk y := fun y e => hall y (List.mem_of_getLast? e)
  have nolast : ls.getLast? = none → found = [] ∨ ∃ n, found = [.top n] := fun e => by
    rcases h.en with ⟨_, h1⟩ | ⟨y, _, _, h1, _⟩
    · exact h1
    · rw [h1] at e; cases e
  by_cases e : l = k
  · subst e
    have hp : (Pc.old l (some l)).valid = true := by simp [Pc.valid, h0]
    rcases h.en with ⟨hls, rfl | ⟨n, rfl⟩⟩ | ⟨y, init, q, hy1, rfl, hq⟩
    · have := RI.app (p := .old l (some l)) h rfl rfl hp rfl ⟨h0, hlk⟩ hy (fun init q z => by simp at z)
      simpa [rollF] using this
    · have := RI.app (p := .old l (some l)) h rfl rfl hp rfl ⟨h0, hlk⟩ hy (fun init q z => by
        obtain ⟨rfl, rfl⟩ : init = [] ∧ Pc.top n = q := by
          cases init with
          | nil => simpa using z
          | cons x xs => simp at z
        exact ⟨rfl, rfl, rfl⟩)
      simpa [rollF] using this
    · obtain ⟨c1, c2, c3⟩ := hle y hy1
      have hyo := hy y hy1
      obtain ⟨y1, y2⟩ := y
      simp only at c1 c2 c3
      cases q with
      | top n => cases hq
      | old b c => cases c with
        | none => cases hq
        | some c =>
          simp [Pc.last] at hq
          obtain ⟨rfl, rfl⟩ := hq
          have c3 := c3 rfl trivial
          by_cases e2 : c + 1 = l
          · have hv := (h.va (.old b (some c)) (by simp)).1
            have := RI.grow (p' := .old b (some l)) (a := (l, l)) h (show b = b from rfl) rfl hy1 rfl (by simp [Pc.valid] at hv ⊢; omega) rfl (by simp [brkL]; omega)
            simpa [rollF, e2] using this
          · have := RI.app (p := .old l (some l)) h rfl rfl hp rfl ⟨h0, hlk⟩ hy (fun init' q' z => by
              obtain ⟨_, w⟩ := List.append_inj' z rfl
              obtain rfl : Pc.old b (some c) = q' := by simpa using w
              refine ⟨rfl, ?_, by simp [weld, e2]⟩
              simp [mayF, Pc.last, Pc.first]
              omega)
            simpa [rollF, e2] using this
      | new b c n =>
        simp [Pc.last] at hq
        obtain ⟨rfl, rfl⟩ := hq
        have := RI.app (p := .old l (some l)) h rfl rfl hp rfl ⟨h0, hlk⟩ hy (fun init' q' z => by
          obtain ⟨_, w⟩ := List.append_inj' z rfl
          obtain rfl : Pc.new b c n = q' := by simpa using w
          refine ⟨rfl, ?_, by simp [weld]⟩
          simp [mayF, Pc.last, Pc.first]
          omega)
        simpa [rollF] using this
  · have hp : (Pc.new l k 1).valid = true := by simp [Pc.valid]; omega
    rcases h.en with ⟨hls, rfl | ⟨n, rfl⟩⟩ | ⟨y, init, q, hy1, rfl, hq⟩
    · have := RI.app (p := .new l k 1) h rfl rfl hp rfl ⟨h0, hlk⟩ hy (fun init q z => by simp at z)
      simpa [rollF, e] using this
    · have := RI.app (p := .new l k 1) h rfl rfl hp rfl ⟨h0, hlk⟩ hy (fun init q z => by
        obtain ⟨rfl, rfl⟩ : init = [] ∧ Pc.top n = q := by
          cases init with
          | nil => simpa using z
          | cons x xs => simp at z
        exact ⟨rfl, rfl, rfl⟩)
      simpa [rollF, e] using this
    · obtain ⟨c1, c2, c3⟩ := hle y hy1
      obtain ⟨y1, y2⟩ := y
      simp only at c1 c2 c3
      cases q with
      | top n => cases hq
      | old b c => cases c with
        | none => cases hq
        | some c =>
          simp [Pc.last] at hq
          obtain ⟨rfl, rfl⟩ := hq
          have := RI.app (p := .new l k 1) h rfl rfl hp rfl ⟨h0, hlk⟩ hy (fun init' q' z => by
            obtain ⟨_, w⟩ := List.append_inj' z rfl
            obtain rfl : Pc.old b (some c) = q' := by simpa using w
            refine ⟨rfl, ?_, by simp [weld]⟩
            simp [mayF, Pc.last, Pc.first]
            omega)
          simpa [rollF, e] using this
      | new b c n =>
        simp [Pc.last] at hq
        obtain ⟨rfl, rfl⟩ := hq
        by_cases e2 : b = l ∧ c = k
        · obtain ⟨rfl, rfl⟩ := e2
          have hv := (h.va (.new b c n) (by simp)).1
          have := RI.grow (p' := .new b c (n + 1)) (a := (b, c)) h ⟨rfl, rfl⟩ rfl hy1 rfl (by simp [Pc.valid] at hv ⊢; omega) rfl (by simp [brkL])
          simpa [rollF, e] using this
        · have := RI.app (p := .new l k 1) h rfl rfl hp rfl ⟨h0, hlk⟩ hy (fun init' q' z => by
            obtain ⟨_, w⟩ := List.append_inj' z rfl
            obtain rfl : Pc.new b c n = q' := by simpa using w
            refine ⟨rfl, ?_, by simp [weld, e2]⟩
            simp [mayF, Pc.last, Pc.first]
            omega)
          simpa [rollF, e, e2] using this
theorem RI.fold : ∀ (ls' : List Lab) (found : List Pc) (ls : List Lab), RI found ls → (ls ++ ls').Pairwise lle → (∀ y ∈ ls ++ ls', labOk y) → RI ((ls'.map some).foldl rollF found) (ls ++ ls')
  | [], found, ls, h, _, _ => by simpa using h
  | a :: ls', found, ls, h, hp, ho => by
    have hs := h.step (a := a) (ho a (by simp)) (fun y hy => ho y (by simp [hy])) (fun y hy => (List.pairwise_append.mp hp).2.2 y (List.mem_of_getLast? hy) a List.mem_cons_self)
    have := RI.fold ls' (rollF found (some a)) (ls ++ [a]) hs (by simpa using hp) (by simpa using ho)
    simpa using this
theorem RI.tops : ∀ t : Nat, RI ((List.replicate t none).foldl rollF []) [] ∧ ((List.replicate t (none : Option Lab)).foldl rollF [] = [] ∨ ∃ n : Int, 1 ≤ n ∧ (List.replicate t (none : Option Lab)).foldl rollF [] = [.top n])
  | 0 => ⟨⟨by simp, trivial, rfl, rfl, .inl ⟨rfl, .inl rfl⟩⟩, .inl rfl⟩
  | t + 1 => by
    obtain ⟨_, h⟩ := RI.tops t
    rw [List.replicate_succ', List.foldl_append]
    rcases h with h | ⟨n, hn, h⟩
    · rw [h]
      exact ⟨⟨by simp [rollF, Pc.valid], trivial, rfl, rfl, .inl ⟨rfl, .inr ⟨1, rfl⟩⟩⟩, .inr ⟨1, by omega, rfl⟩⟩
    · rw [h]
      exact ⟨⟨by simp [rollF, Pc.valid]; omega, trivial, rfl, rfl, .inl ⟨rfl, .inr ⟨n + 1, rfl⟩⟩⟩, .inr ⟨n + 1, by omega, rfl⟩⟩
theorem okFrom_of : ∀ (ps : List Pc) (b : Option Pc) (a : Int), (∀ q, b = some q → chn (q :: (ps ++ [.old a none]))) → chn (ps ++ [.old a none]) → (∀ p ∈ ps, p.valid = true) → 0 ≤ a → okFrom b (ps ++ [.old a none]) = true
  | [], b, a, h1, h2, h3, h4 => by
    rw [List.nil_append, okFrom_cons]
    cases b with
    | none => simp [okFrom, Pc.valid, h4]
    | some q =>
      obtain ⟨⟨a1, a2, _⟩, _⟩ := h1 q rfl
      simp [okFrom, Pc.valid, h4, a1, a2]
  | p :: ps, b, a, h1, h2, h3, h4 => by
    have hc : chn (ps ++ [.old a none]) := by
      cases ps with
      | nil => trivial
      | cons x xs => exact h2.2
    have ih := okFrom_of ps (some p) a (fun q e => by cases e; exact h2) hc (fun x hx => h3 x (List.mem_cons_of_mem _ hx)) h4
    rw [List.cons_append, okFrom_cons, ih]
    cases b with
    | none => simp [h3 p List.mem_cons_self]
    | some q =>
      obtain ⟨⟨a1, a2, _⟩, _⟩ := h1 q rfl
      simp [h3 p List.mem_cons_self, a1, a2]
theorem norm_of : ∀ (ps found : List Pc), chn (found ++ ps) → ps.foldl normF found = found ++ ps
  | [], found, _ => by simp
  | p :: ps, found, h => by
    have e : normF found p = found ++ [p] := by
      rcases List.eq_nil_or_concat found with rfl | ⟨init, q, rfl⟩
      · rfl
      · rw [List.concat_eq_append] at *
        have e2 : init ++ [q] ++ p :: ps = init ++ (q :: p :: ps) := by simp
        have hq : ∀ (xs : List Pc) , chn (xs ++ (q :: p :: ps)) → Adj q p := by
          intro xs
          induction xs with
          | nil => intro h; exact h.1
          | cons x xs ih =>
            intro h
            refine ih ?_
            cases xs with
            | nil => exact h.2
            | cons y ys => exact h.2
        have := (hq init (e2 ▸ h)).2.2
        simp [normF, this]
    rw [List.foldl_cons, e, norm_of ps (found ++ [p]) (by simpa using h)]
    simp
theorem chn_closed : ∀ ps : List Pc, chn ps → closedF ps = true
  | [], _ => rfl
  | [_], _ => rfl
  | p :: q :: ps, h => by
    simp [closedF, h.1.1, chn_closed (q :: ps) h.2]
theorem labsOf_some (ls : List Lab) : labsOf (ls.map some) = ls := by
  induction ls with
  | nil => rfl
  | cons x ls ih => simpa [labsOf] using ih
theorem rows_good {k : Nat} {rows : List (Option Lab)} (h : Rows k rows) : okPcs (roll rows) = true ∧ norm (roll rows) = roll rows ∧ (roll rows).length ≤ 3 * k + 12 ∧ closedF (roll rows) = true ∧ brks (roll rows) = brkR none (labsOf rows) ∧ oldEnd rows ∧ rows.length ≤ 3 * k + 12 := by
  obtain ⟨t, ls, v, hr, ht, hl, hp, ho, _⟩ := h.ex
  have hv : labOk (v, v) := ho _ (by simp)
  have hv0 : 0 ≤ v := hv.1
  let fl := ls ++ (rangeI v 9).map fun i => ((i, i) : Lab)
  have e1 : rows = List.replicate t none ++ fl.map some := by
    rw [hr]
    simp [fl, Function.comp_def]
  have pw : fl.Pairwise lle := by
    rw [List.pairwise_append] at hp ⊢
    refine ⟨hp.1, olds_pw _ _, fun x hx y hy => ?_⟩
    obtain ⟨i, hi, rfl⟩ := List.mem_map.mp hy
    have hi := (rangeI_mem _ _ _).mp hi
    obtain ⟨c1, c2, c3⟩ := hp.2.2 x hx (v, v) (by simp)
    have c1 : x.1 ≤ v := c1
    have c2 : x.2 ≤ v := c2
    refine ⟨by show x.1 ≤ i; omega, by show x.2 ≤ i; omega, fun e _ => ?_⟩
    have := c3 e rfl
    have : x.1 < v := this
    show x.1 < i
    omega
  have ok : ∀ y ∈ fl, labOk y := by
    intro y hy
    rcases List.mem_append.mp hy with hy | hy
    · exact ho y (by simp [hy])
    · obtain ⟨i, hi, rfl⟩ := List.mem_map.mp hy
      have hi := (rangeI_mem _ _ _).mp hi
      exact ⟨by show 0 ≤ i; omega, by show i ≤ i; omega⟩
  have ri := RI.fold fl _ [] (RI.tops t).1 (by simpa using pw) (by simpa using ok)
  rw [← List.foldl_append, ← e1, List.nil_append] at ri
  have hlen : rows.length ≤ 3 * k + 12 := by
    rw [hr]
    simp [rangeI_len]
    omega
  have hend : rows.getLast? = some (some (v + 8, v + 8)) := by
    rw [hr]
    simp [rangeI]
    omega
  obtain ⟨init, a, b, f1, f2⟩ := fold_last rows [] (v + 8) hend
  have er : roll rows = init ++ [.old a none] := by
    unfold roll
    rw [f1]
    simp [rollE]
  rw [f1] at ri
  have hb := (ri.va (.old a (some b)) (by simp)).1
  have ha : 0 ≤ a := by
    simp [Pc.valid] at hb
    exact hb.1
  have hc : chn (init ++ [.old a none]) := chn_last (q := .old a (some b)) rfl ri.ch
  have hva : ∀ p ∈ init, p.valid = true := fun p hp => (ri.va p (List.mem_append_left _ hp)).1
  have hbr : brks (roll rows) = brkR none (labsOf rows) := by
    have e := ri.br
    have e2 : labsOf rows = fl := by
      rw [e1]
      have : labsOf (List.replicate t none ++ fl.map some) = labsOf (List.replicate t none) ++ labsOf (fl.map some) := by simp [labsOf]
      rw [this, labsOf_some]
      have e3 : ∀ t : Nat, labsOf (List.replicate t none) = [] := by
        intro t
        induction t with
        | zero => rfl
        | succ t ih => simpa [labsOf, List.replicate_succ] using ih
      rw [e3]
      rfl
    rw [e2, ← e, er]
    unfold brks
    rw [brkF_app, brkF_app]
    rfl
  refine ⟨?_, ?_, ?_, ?_, hbr, ⟨v + 8, hend⟩, hlen⟩
  · rw [er]
    exact okFrom_of init none a (fun q z => by cases z) hc hva ha
  · rw [er]
    exact norm_of _ [] hc
  · rw [er]
    rw [f1] at f2
    simp at f2 ⊢
    omega
  · rw [er]
    exact chn_closed _ hc
end PR
/-! Q3: cutting pieces, commands; rows by their numbers, in plain Lean. -/
namespace PR
/-- a piece cut behind its first k rows -/
def Pc.cut1 (k : Int) : Pc → Pc
  | .top _ => .top k
  | .old a _ => .old a (some (a + k - 1))
  | .new l h _ => .new l h k
def Pc.cut2 (k : Int) : Pc → Pc
  | .top n => .top (n - k)
  | .old a b => .old (a + k) b
  | .new l h n => .new l h (n - k)
def cutF : List Pc → Int → List Pc × List Pc
  | [], _ => ([], [])
  | p :: ps, at_ => if at_ ≤ 0 then ([], p :: ps) else match p.size with
    | none => ([p.cut1 at_], p.cut2 at_ :: ps)
    | some s => if s > at_ then ([p.cut1 at_], p.cut2 at_ :: ps) else (p :: (cutF ps (at_ - s)).1, (cutF ps (at_ - s)).2)
/-- a command -/
inductive Cmd where
  | ins (i n : Int) | del (a b : Int)
  deriving DecidableEq
def Cmd.ok : Cmd → Bool
  | .ins i n => decide (0 ≤ i) && decide (1 ≤ n)
  | .del a b => decide (0 ≤ a) && decide (a ≤ b)
def insF (ps : List Pc) (i n : Int) : List Pc :=
  let (b, a) := cutF ps i
  norm (match b.getLast?.bind Pc.last with
    | none => b ++ .top n :: a
    | some x => b ++ .new x.1 ((a.head?.bind Pc.first).getD (0, 0)).2 n :: a)
def delF (ps : List Pc) (f l : Int) : List Pc := norm ((cutF ps f).1 ++ (cutF ps (l + 1)).2)
def cmdF (ps : List Pc) : Cmd → List Pc
  | .ins i n => insF ps i n
  | .del a b => delF ps a b
/-- the label of the r-th row of a piece -/
def Pc.at_ (r : Int) : Pc → Option Lab
  | .top _ => none
  | .old a _ => some (a + r, a + r)
  | .new l h _ => some (l, h)
/-- the label of the r-th row -/
def lab : List Pc → Int → Option Lab
  | [], _ => none
  | p :: ps, r => match p.size with
    | none => p.at_ r
    | some s => if r < s then p.at_ r else lab ps (r - s)
/-- how many rows closed pieces have -/
def tot : List Pc → Int
  | [] => 0
  | p :: ps => (p.size.getD 0) + tot ps
/-- pieces that are whole, closed -/
def allC (ps : List Pc) : Prop := ∀ p ∈ ps, p.valid = true ∧ p.isOpen = false
theorem size_closed {p : Pc} (h : p.isOpen = false) : ∃ s, p.size = some s := by
  cases p with
  | top n => exact ⟨n, rfl⟩
  | old a b => cases b with
    | none => cases h
    | some b => exact ⟨_, rfl⟩
  | new l k n => exact ⟨n, rfl⟩
theorem size_pos {p : Pc} {s : Int} (hv : p.valid = true) (h : p.size = some s) : 1 ≤ s := by
  cases p with
  | top n => simp [Pc.size, Pc.valid] at *; omega
  | old a b => cases b <;> simp [Pc.size, Pc.valid] at * <;> omega
  | new l k n => simp [Pc.size, Pc.valid] at *; omega
theorem tot_nonneg {ps : List Pc} (h : allC ps) : 0 ≤ tot ps := by
  induction ps with
  | nil => exact Int.le_refl _
  | cons p ps ih =>
    obtain ⟨h1, h2⟩ := h p List.mem_cons_self
    obtain ⟨s, hs⟩ := size_closed h2
    have := size_pos h1 hs
    have := ih fun q hq => h q (List.mem_cons_of_mem _ hq)
    simp [tot, hs]
    omega
theorem tot_app (ps qs : List Pc) : tot (ps ++ qs) = tot ps + tot qs := by
  induction ps with
  | nil => simp [tot]
  | cons p ps ih => simp [tot, ih]; omega
theorem lab_app {ps qs : List Pc} (h : allC ps) {r : Int} (hr : 0 ≤ r) : lab (ps ++ qs) r = if r < tot ps then lab ps r else lab qs (r - tot ps) := by
  induction ps generalizing r with
  | nil =>
    have e : ¬ r < tot [] := by simp [tot]; omega
    rw [if_neg e]
    simp [tot]
  | cons p ps ih =>
    obtain ⟨h1, h2⟩ := h p List.mem_cons_self
    obtain ⟨s, hs⟩ := size_closed h2
    have hp := size_pos h1 hs
    have ht := tot_nonneg (ps := ps) fun q hq => h q (List.mem_cons_of_mem _ hq)
    rw [List.cons_append]
    simp only [lab, hs, tot, Option.getD_some]
    by_cases e : r < s
    · rw [if_pos e, if_pos (by omega), if_pos e]
    · rw [if_neg e, ih (fun q hq => h q (List.mem_cons_of_mem _ hq)) (by omega)]
      by_cases e2 : r - s < tot ps
      · rw [if_pos e2, if_pos (by omega), if_neg e]
      · rw [if_neg e2, if_neg (by omega)]
        congr 1
        omega
/-- pieces whose last one is open: a whole layout's -/
structure Lay (ps : List Pc) : Prop where
  ex : ∃ (init : List Pc) (a : Int), ps = init ++ [.old a none] ∧ allC init ∧ 0 ≤ a
theorem allC_cons {p : Pc} {ps : List Pc} : allC (p :: ps) ↔ (p.valid = true ∧ p.isOpen = false) ∧ allC ps := by
  unfold allC
  simp
theorem allC_app {ps qs : List Pc} : allC (ps ++ qs) ↔ allC ps ∧ allC qs := by
  unfold allC
  constructor
  · intro h
    exact ⟨fun p hp => h p (List.mem_append_left _ hp), fun p hp => h p (List.mem_append_right _ hp)⟩
  · rintro ⟨h1, h2⟩ p hp
    rcases List.mem_append.mp hp with hp | hp
    · exact h1 p hp
    · exact h2 p hp
theorem Lay.cons {p : Pc} {ps : List Pc} (h1 : p.valid = true) (h2 : p.isOpen = false) (h : Lay ps) : Lay (p :: ps) := by
  obtain ⟨init, a, rfl, h3, h4⟩ := h.ex
  exact ⟨p :: init, a, rfl, allC_cons.mpr ⟨⟨h1, h2⟩, h3⟩, h4⟩
theorem Lay.app {ps qs : List Pc} (h1 : allC ps) (h : Lay qs) : Lay (ps ++ qs) := by
  obtain ⟨init, a, rfl, h3, h4⟩ := h.ex
  exact ⟨ps ++ init, a, by simp, allC_app.mpr ⟨h1, h3⟩, h4⟩
theorem Lay.one {a : Int} (h : 0 ≤ a) : Lay [.old a none] := ⟨[], a, rfl, by simp [allC], h⟩
/-- its cases -/
theorem Lay.cases {p : Pc} {ps : List Pc} (h : Lay (p :: ps)) : (∃ a, p = .old a none ∧ ps = [] ∧ 0 ≤ a) ∨ (p.valid = true ∧ p.isOpen = false ∧ Lay ps) := by
  obtain ⟨init, a, e, h3, h4⟩ := h.ex
  cases init with
  | nil =>
    simp at e
    exact .inl ⟨a, e.1, e.2, h4⟩
  | cons q init =>
    simp at e
    obtain ⟨rfl, rfl⟩ := e
    obtain ⟨⟨k1, k2⟩, k3⟩ := allC_cons.mp h3
    exact .inr ⟨k1, k2, init, a, rfl, k3, h4⟩
theorem Lay.ne {ps : List Pc} (h : Lay ps) : ps ≠ [] := by
  obtain ⟨init, a, rfl, _⟩ := h.ex
  simp
theorem cut1_ok {p : Pc} {k : Int} (hk : 0 < k) (hs : ∀ s, p.size = some s → k < s) (hv : p.valid = true) : (p.cut1 k).valid = true ∧ (p.cut1 k).isOpen = false ∧ (p.cut1 k).size = some k ∧ (∀ r, (p.cut1 k).at_ r = p.at_ r) := by
  cases p with
  | top n => exact ⟨by simp [Pc.cut1, Pc.valid]; omega, rfl, rfl, fun _ => rfl⟩
  | old a b =>
    refine ⟨?_, rfl, ?_, fun _ => rfl⟩
    · cases b <;> simp [Pc.cut1, Pc.valid] at * <;> omega
    · simp [Pc.cut1, Pc.size]
      omega
  | new l h n =>
    refine ⟨?_, rfl, rfl, fun _ => rfl⟩
    simp [Pc.cut1, Pc.valid] at *
    omega
theorem cut2_ok {p : Pc} {k : Int} (hk : 0 < k) (hs : ∀ s, p.size = some s → k < s) (hv : p.valid = true) : (p.cut2 k).valid = true ∧ (p.cut2 k).isOpen = p.isOpen ∧ (p.cut2 k).size = p.size.map (fun s => s - k) ∧ (∀ r, (p.cut2 k).at_ r = p.at_ (r + k)) := by
  cases p with
  | top n =>
    have := hs n rfl
    exact ⟨by simp [Pc.cut2, Pc.valid]; omega, rfl, rfl, fun _ => rfl⟩
  | old a b =>
    cases b with
    | none => exact ⟨by simp [Pc.cut2, Pc.valid] at *; omega, rfl, rfl, fun r => by simp [Pc.cut2, Pc.at_]; omega⟩
    | some b =>
      have := hs _ rfl
      refine ⟨by simp [Pc.cut2, Pc.valid] at *; omega, rfl, by simp [Pc.cut2, Pc.size]; omega, fun r => by simp [Pc.cut2, Pc.at_]; omega⟩
  | new l h n =>
    have := hs n rfl
    exact ⟨by simp [Pc.cut2, Pc.valid] at *; omega, rfl, rfl, fun _ => rfl⟩
/-- what a cut is -/
structure CutOk (ps : List Pc) (k : Int) (b a : List Pc) : Prop where
  cl : allC b
  la : Lay a
  tt : tot b = k
  fr : ∀ r, 0 ≤ r → r < k → lab b r = lab ps r
  bk : ∀ r, 0 ≤ r → lab a r = lab ps (r + k)
  ln : b.length + a.length ≤ ps.length + 1
theorem cut_ok : ∀ (ps : List Pc) (k : Int), Lay ps → 0 ≤ k → CutOk ps k (cutF ps k).1 (cutF ps k).2
  | [], k, h, _ => absurd rfl h.ne
  | p :: ps, k, h, hk => by
    by_cases h0 : k ≤ 0
    · have e : k = 0 := by omega
      subst e
      have e2 : cutF (p :: ps) 0 = ([], p :: ps) := by simp [cutF]
      rw [e2]
      exact ⟨by simp [allC], h, rfl, fun r h1 h2 => by omega, fun r _ => by simp, by simp⟩
    · rcases h.cases with ⟨a, rfl, rfl, ha⟩ | ⟨hv, ho, hl⟩
      · have e2 : cutF [.old a none] k = ([(Pc.old a none).cut1 k], [(Pc.old a none).cut2 k]) := by simp [cutF, h0, Pc.size]
        rw [e2]
        have hv : (Pc.old a none).valid = true := by simp [Pc.valid, ha]
        obtain ⟨c1, c2, c3, c4⟩ := cut1_ok (p := .old a none) (k := k) (by omega) (fun s z => by cases z) hv
        refine ⟨by simp [allC, c1, c2], Lay.one (by omega), by simp [tot, c3], fun r h1 h2 => ?_, fun r h1 => ?_, by simp⟩
        · simp only [lab, c3, c4]
          rw [if_pos h2]
          simp [Pc.size]
        · simp [lab, Pc.cut2, Pc.size, Pc.at_]
          omega
      · obtain ⟨s, hs⟩ := size_closed ho
        have hp := size_pos hv hs
        by_cases hsk : s > k
        · have e2 : cutF (p :: ps) k = ([p.cut1 k], p.cut2 k :: ps) := by simp [cutF, h0, hs, hsk]
          rw [e2]
          have hss : ∀ s', p.size = some s' → k < s' := fun s' z => by rw [hs] at z; cases z; exact hsk
          obtain ⟨c1, c2, c3, c4⟩ := cut1_ok (p := p) (k := k) (by omega) hss hv
          obtain ⟨d1, d2, d3, d4⟩ := cut2_ok (p := p) (k := k) (by omega) hss hv
          rw [hs] at d3
          refine ⟨by simp [allC, c1, c2], Lay.cons d1 (by rw [d2]; exact ho) hl, by simp [tot, c3], fun r h1 h2 => ?_, fun r h1 => ?_, by simp; omega⟩
          · simp only [lab, c3, c4, hs]
            rw [if_pos h2, if_pos (by omega)]
          · simp only [lab, d3, d4, hs, Option.map_some]
            by_cases e : r < s - k
            · rw [if_pos e, if_pos (by omega)]
            · rw [if_neg e, if_neg (by omega)]
              congr 1
              omega
        · have e2 : cutF (p :: ps) k = (p :: (cutF ps (k - s)).1, (cutF ps (k - s)).2) := by simp [cutF, h0, hs, hsk]
          rw [e2]
          have ih := cut_ok ps (k - s) hl (by omega)
          refine ⟨allC_cons.mpr ⟨⟨hv, ho⟩, ih.cl⟩, ih.la, by simp [tot, hs, ih.tt]; omega, fun r h1 h2 => ?_, fun r h1 => ?_, by have := ih.ln; simp; omega⟩
          · simp only [lab, hs]
            by_cases e : r < s
            · rw [if_pos e, if_pos e]
            · rw [if_neg e, if_neg e]
              exact ih.fr (r - s) (by omega) (by omega)
          · simp only [lab, hs]
            rw [ih.bk r h1, if_neg (by omega)]
            congr 1
            omega
end PR
/-! Q4: rows of layouts as functions of their numbers, in plain Lean. -/
namespace PR
theorem lle_trans {x y z : Lab} (h1 : lle x y) (h2 : lle y z) : lle x z := by
  obtain ⟨a1, a2, a3⟩ := h1
  obtain ⟨b1, b2, b3⟩ := h2
  refine ⟨by omega, by omega, fun e1 e2 => ?_⟩
  by_cases e : y.1 = y.2
  · have := a3 e1 e
    omega
  · omega
/-- labels of rows one behind the other -/
def ole : Option Lab → Option Lab → Prop
  | none, _ => True
  | some _, none => False
  | some x, some y => lle x y
theorem ole_trans {x y z : Option Lab} (h1 : ole x y) (h2 : ole y z) : ole x z := by
  cases x with
  | none => trivial
  | some x => cases y with
    | none => exact h1.elim
    | some y => cases z with
      | none => exact h2.elim
      | some z => exact lle_trans h1 h2
structure Good (f : Int → Option Lab) : Prop where
  mono : ∀ i j, 0 ≤ i → i < j → ole (f i) (f j)
  ok : ∀ i x, 0 ≤ i → f i = some x → labOk x
  tail : ∃ n v : Int, 0 ≤ n ∧ 0 ≤ v ∧ ∀ i, n ≤ i → f i = some (v + (i - n), v + (i - n))
theorem mono_of {f : Int → Option Lab} (h : ∀ i, 0 ≤ i → ole (f i) (f (i + 1))) : ∀ i j, 0 ≤ i → i < j → ole (f i) (f j) := by
  have key : ∀ (n : Nat) (i : Int), 0 ≤ i → ole (f i) (f (i + 1 + n)) := by
    intro n
    induction n with
    | zero => intro i hi; simpa using h i hi
    | succ n ih =>
      intro i hi
      have := ole_trans (ih i hi) (h (i + 1 + n) (by omega))
      rwa [show i + 1 + (n : Int) + 1 = i + 1 + ((n + 1 : Nat) : Int) by omega] at this
  intro i j hi hj
  have := key (j - i - 1).toNat i hi
  rwa [show i + 1 + ((j - i - 1).toNat : Int) = j by omega] at this
/-- pieces, valid, closed but the last one -/
theorem lab_head {p : Pc} {ps : List Pc} (h : Lay (p :: ps)) : lab (p :: ps) 0 = p.first := by
  rcases h.cases with ⟨a, rfl, rfl, ha⟩ | ⟨hv, ho, hl⟩
  · simp [lab, Pc.size, Pc.at_, Pc.first]
  · obtain ⟨s, hs⟩ := size_closed ho
    have := size_pos hv hs
    simp only [lab, hs]
    rw [if_pos (by omega)]
    cases p <;> simp [Pc.at_, Pc.first]
theorem lab_last {p : Pc} {s : Int} (h : p.size = some s) : p.at_ (s - 1) = p.last := by
  cases p with
  | top n => rfl
  | old a b => cases b with
    | none => cases h
    | some b => simp [Pc.size] at h; subst h; simp [Pc.at_, Pc.last]; omega
  | new l k n => rfl
theorem at_step {p : Pc} (hv : p.valid = true) (r : Int) : ole (p.at_ r) (p.at_ (r + 1)) := by
  cases p with
  | top n => trivial
  | old a b => exact ⟨by show a + r ≤ a + (r + 1); omega, by show a + r ≤ a + (r + 1); omega, fun _ _ => by show a + r < a + (r + 1); omega⟩
  | new l h n =>
    simp [Pc.valid] at hv
    exact ⟨Int.le_refl _, Int.le_refl _, fun e _ => by have e : l = h := e; omega⟩
theorem mayF_ole {p q : Pc} (hp : p.isOpen = false) (vp : p.valid = true) (vq : q.valid = true) : mayF p q = true ↔ ole p.last q.first := by
  have old : ∀ b c : Int, (decide (b ≤ c) && !decide (b = c)) = true ↔ b < c := fun b c => by simp; omega
  cases p with
  | top n => simp [mayF, ole, Pc.last]
  | old a b => cases b with
    | none => cases hp
    | some b => cases q with
      | top m => simp [mayF, ole, Pc.last, Pc.first]
      | old c d =>
        simp [mayF, ole, Pc.last, Pc.first, lle]
        omega
      | new l h m =>
        simp [Pc.valid] at vq
        simp [mayF, ole, Pc.last, Pc.first, lle]
        omega
  | new l h n => cases q with
    | top m => simp [mayF, ole, Pc.last, Pc.first]
    | old c d =>
      simp [Pc.valid] at vp
      simp [mayF, ole, Pc.last, Pc.first, lle]
      omega
    | new l' h' m =>
      simp [Pc.valid] at vp vq
      simp [mayF, ole, Pc.last, Pc.first, lle]
      omega
theorem okFrom_lay : ∀ (ps : List Pc) (b : Option Pc), ps ≠ [] → okFrom b ps = true → Lay ps ∧ (∀ q, b = some q → q.isOpen = false ∧ mayF q (ps.head?.getD (.top 0)) = true)
  | [], b, h, _ => absurd rfl h
  | p :: ps, b, _, h => by
    rw [okFrom_cons] at h
    simp only [Bool.and_eq_true] at h
    obtain ⟨⟨h1, h2⟩, h3⟩ := h
    refine ⟨?_, fun q e => ?_⟩
    · cases ps with
      | nil =>
        have h3 : p.isOpen = true := h3
        cases p with
        | old a b => cases b with
          | none => simp [Pc.valid] at h1; exact Lay.one h1
          | some b => cases h3
        | top n => cases h3
        | new l k n => cases h3
      | cons q ps =>
        obtain ⟨a1, a2⟩ := okFrom_lay (q :: ps) (some p) (by simp) h3
        exact Lay.cons h1 (a2 p rfl).1 a1
    · subst e
      simp only [Bool.and_eq_true, Bool.not_eq_true'] at h2
      exact ⟨h2.1, by simpa using h2.2⟩
/-- one row behind the other in pieces -/
theorem step_of : ∀ (ps : List Pc) (b : Option Pc), Lay ps → okFrom b ps = true → ∀ i, 0 ≤ i → ole (lab ps i) (lab ps (i + 1))
  | [], _, h, _, _, _ => absurd rfl h.ne
  | p :: ps, b, h, hb, i, hi => by
    rcases h.cases with ⟨a, rfl, rfl, ha⟩ | ⟨hv, ho, hl⟩
    · have := at_step (p := .old a none) (by simp [Pc.valid, ha]) i
      simpa [lab, Pc.size] using this
    · obtain ⟨s, hs⟩ := size_closed ho
      have h1 := size_pos hv hs
      rw [okFrom_cons] at hb
      simp only [Bool.and_eq_true] at hb
      simp only [lab, hs]
      by_cases e : i < s
      · rw [if_pos e]
        by_cases e2 : i + 1 < s
        · rw [if_pos e2]
          exact at_step hv i
        · rw [if_neg e2]
          have e3 : i = s - 1 := by omega
          subst e3
          rw [lab_last hs, show s - 1 + 1 - s = 0 by omega]
          cases ps with
          | nil => exact absurd rfl hl.ne
          | cons q ps =>
            rw [lab_head hl]
            have hb3 := hb.2
            rw [okFrom_cons] at hb3
            simp only [Bool.and_eq_true, Bool.not_eq_true'] at hb3
            exact (mayF_ole ho hv hb3.1.1).mp hb3.1.2.2
      · rw [if_neg e, if_neg (by omega)]
        have := step_of ps (some p) hl hb.2 (i - s) (by omega)
        rwa [show i - s + 1 = i + 1 - s by omega] at this
theorem lab_ok : ∀ (ps : List Pc), Lay ps → ∀ i x, 0 ≤ i → lab ps i = some x → labOk x
  | [], h, _, _, _, _ => absurd rfl h.ne
  | p :: ps, h, i, x, hi, e => by
    have key : ∀ p : Pc, p.valid = true → p.at_ i = some x → labOk x := by
      intro p hv e
      cases p with
      | top n => cases e
      | old a b =>
        cases e
        cases b <;> simp [Pc.valid] at hv <;> exact ⟨by show 0 ≤ a + i; omega, Int.le_refl _⟩
      | new l k n =>
        cases e
        simp [Pc.valid] at hv
        exact ⟨by show 0 ≤ l; omega, by show l ≤ k; omega⟩
    rcases h.cases with ⟨a, rfl, rfl, ha⟩ | ⟨hv, ho, hl⟩
    · exact key (.old a none) (by simp [Pc.valid, ha]) (by simpa [lab, Pc.size] using e)
    · obtain ⟨s, hs⟩ := size_closed ho
      simp only [lab, hs] at e
      by_cases e1 : i < s
      · rw [if_pos e1] at e
        exact key p hv e
      · rw [if_neg e1] at e
        exact lab_ok ps hl (i - s) x (by omega) e
theorem lab_tail {ps : List Pc} (h : Lay ps) : ∃ n v : Int, 0 ≤ n ∧ 0 ≤ v ∧ ∀ i, n ≤ i → lab ps i = some (v + (i - n), v + (i - n)) := by
  obtain ⟨init, a, rfl, h1, h2⟩ := h.ex
  refine ⟨tot init, a, tot_nonneg h1, h2, fun i hi => ?_⟩
  have := tot_nonneg h1
  rw [lab_app h1 (by omega), if_neg (by omega)]
  simp [lab, Pc.size, Pc.at_]
structure Whole (ps : List Pc) : Prop where
  lay : Lay ps
  good : Good (lab ps)
theorem ok_ne {ps : List Pc} (h : okPcs ps = true) : ps ≠ [] := by
  rintro rfl
  simp [okPcs, okFrom] at h
theorem whole_of {ps : List Pc} (h : okPcs ps = true) : Whole ps := by
  have hl := (okFrom_lay ps none (ok_ne h) h).1
  exact ⟨hl, mono_of (step_of ps none hl h), lab_ok ps hl, lab_tail hl⟩
theorem ok_of : ∀ (ps : List Pc) (b : Option Pc), Lay ps → (∀ i, 0 ≤ i → ole (lab ps i) (lab ps (i + 1))) → (∀ q, b = some q → q.isOpen = false ∧ mayF q (ps.head?.getD (.top 0)) = true) → okFrom b ps = true
  | [], b, h, _, _ => absurd rfl h.ne
  | p :: ps, b, h, hm, hb => by
    rw [okFrom_cons]
    have h2 : ∀ q, b = some q → (!q.isOpen && mayF q p) = true := fun q e => by
      obtain ⟨a1, a2⟩ := hb q e
      simp at a2
      simp [a1, a2]
    rcases h.cases with ⟨a, rfl, rfl, ha⟩ | ⟨hv, ho, hl⟩
    · cases b with
      | none => simp [okFrom, Pc.valid, ha]
      | some q => have := h2 q rfl; simp at this; simp [okFrom, Pc.valid, ha, this]
    · obtain ⟨s, hs⟩ := size_closed ho
      have h1 := size_pos hv hs
      have sh : ∀ i, 0 ≤ i → lab ps i = lab (p :: ps) (i + s) := fun i hi => by
        simp only [lab, hs]
        rw [if_neg (by omega), show i + s - s = i by omega]
      have ih := ok_of ps (some p) hl (fun i hi => by
        rw [sh i hi, sh (i + 1) (by omega), show i + 1 + s = i + s + 1 by omega]
        exact hm (i + s) (by omega)) (fun q e => by
        cases e
        refine ⟨ho, ?_⟩
        cases ps with
        | nil => exact absurd rfl hl.ne
        | cons q ps =>
          have e1 : lab (p :: q :: ps) (s - 1) = p.last := by
            simp only [lab, hs]
            rw [if_pos (by omega), lab_last hs]
          have e2 : lab (p :: q :: ps) (s - 1 + 1) = q.first := by
            rw [show s - 1 + 1 = 0 + s by omega, ← sh 0 (by omega), lab_head hl]
          have hq : q.valid = true := by
            rcases hl.cases with ⟨a, rfl, rfl, ha⟩ | ⟨hv, _, _⟩
            · simp [Pc.valid, ha]
            · exact hv
          have := hm (s - 1) (by omega)
          rw [e1, e2] at this
          exact (mayF_ole ho hv hq).mpr this)
      cases b with
      | none => simp [hv, ih]
      | some q => have := h2 q rfl; simp at this; simp [hv, ih, this]
theorem Whole.ok {ps : List Pc} (h : Whole ps) : okPcs ps = true := ok_of ps none h.lay (fun i hi => h.good.mono i (i + 1) hi (by omega)) (fun q e => by cases e)
theorem lay_closed : ∀ {ps : List Pc}, Lay ps → closedF ps = true
  | [], _ => rfl
  | [_], _ => rfl
  | p :: q :: ps, h => by
    rcases h.cases with ⟨a, rfl, e, ha⟩ | ⟨hv, ho, hl⟩
    · cases e
    · simp [closedF, ho, lay_closed hl]
end PR
/-! Q5: normal forms, inserted and deleted rows, in plain Lean. -/
namespace PR
def nrm : List Pc → Prop
  | [] => True
  | [_] => True
  | p :: q :: ps => weld p q = none ∧ nrm (q :: ps)
theorem nrm_tail {p : Pc} {ps : List Pc} (h : nrm (p :: ps)) : nrm ps := by
  cases ps with
  | nil => trivial
  | cons q ps => exact h.2
theorem nrm_snoc : ∀ {ps : List Pc} {q p : Pc}, nrm (ps ++ [q] ++ [p]) ↔ nrm (ps ++ [q]) ∧ weld q p = none
  | [], q, p => by simp [nrm]
  | [x], q, p => by simp [nrm, and_assoc]
  | x :: y :: ps, q, p => by
    have ih := nrm_snoc (ps := y :: ps) (q := q) (p := p)
    simp only [List.cons_append, nrm] at ih ⊢
    rw [ih, and_assoc]
theorem weld_same {p q b : Pc} (h : weld q p = some b) : sameH q b := by
  cases q with
  | top n => cases p <;> simp [weld] at h; subst h; trivial
  | old a c => cases c <;> cases p <;> simp [weld] at h; obtain ⟨_, rfl⟩ := h; rfl
  | new l k n => cases p <;> simp [weld] at h; obtain ⟨_, rfl⟩ := h; exact ⟨rfl, rfl⟩
theorem weld_none_same {x q b : Pc} (h : sameH q b) (w : weld x q = none) : weld x b = none := by
  cases x with
  | top n => cases q <;> cases b <;> simp [sameH] at h <;> simp_all [weld]
  | new l k n => cases q <;> cases b <;> simp [sameH] at h <;> simp_all [weld]
  | old a c => cases c <;> cases q <;> cases b <;> simp [sameH] at h <;> simp_all [weld]
theorem nrm_last {ps : List Pc} {q b : Pc} (h : sameH q b) (c : nrm (ps ++ [q])) : nrm (ps ++ [b]) := by
  rcases List.eq_nil_or_concat ps with rfl | ⟨init, r, rfl⟩
  · trivial
  · rw [List.concat_eq_append, nrm_snoc] at c ⊢
    exact ⟨c.1, weld_none_same h c.2⟩
/-- what a weld is -/
theorem weld_ok {p q b : Pc} (hq : q.valid = true) (ho : q.isOpen = false) (hp : p.valid = true) (h : weld q p = some b) :
    b.valid = true ∧ b.isOpen = p.isOpen ∧ ∀ rest r, 0 ≤ r → lab (b :: rest) r = lab (q :: p :: rest) r := by
  cases q with
  | top n =>
    cases p <;> simp [weld] at h
    rename_i m
    subst h
    simp [Pc.valid] at *
    refine ⟨by omega, fun rest r hr => ?_⟩
    simp only [lab, Pc.size]
    by_cases e : r < n
    · rw [if_pos (by omega), if_pos e]
      rfl
    · rw [if_neg e]
      by_cases e2 : r - n < m
      · rw [if_pos (by omega), if_pos e2]
        rfl
      · rw [if_neg (by omega), if_neg e2]
        congr 1
        omega
  | old a c =>
    cases c with
    | none => cases ho
    | some c =>
      cases p <;> simp [weld] at h
      rename_i d e
      obtain ⟨rfl, rfl⟩ := h
      cases e with
      | none =>
        simp [Pc.valid] at *
        refine ⟨by omega, fun rest r hr => ?_⟩
        simp only [lab, Pc.size]
        by_cases e : r < c - a + 1
        · rw [if_pos e]
          rfl
        · rw [if_neg e]
          simp [Pc.at_]
          omega
      | some e =>
        simp [Pc.valid] at *
        refine ⟨by omega, fun rest r hr => ?_⟩
        simp only [lab, Pc.size]
        by_cases e1 : r < c - a + 1
        · rw [if_pos e1, if_pos (by omega)]
          rfl
        · rw [if_neg e1]
          by_cases e2 : r - (c - a + 1) < e - (c + 1) + 1
          · rw [if_pos e2, if_pos (by omega)]
            simp [Pc.at_]
            omega
          · rw [if_neg e2, if_neg (by omega)]
            congr 1
            omega
  | new l k n =>
    cases p <;> simp [weld] at h
    rename_i l' k' m
    obtain ⟨⟨rfl, rfl⟩, rfl⟩ := h
    simp [Pc.valid] at *
    refine ⟨by omega, fun rest r hr => ?_⟩
    simp only [lab, Pc.size]
    by_cases e : r < n
    · rw [if_pos (by omega), if_pos e]
      rfl
    · rw [if_neg e]
      by_cases e2 : r - n < m
      · rw [if_pos (by omega), if_pos e2]
        rfl
      · rw [if_neg (by omega), if_neg e2]
        congr 1
        omega
/-- the same rows -/
def sameRows (ps qs : List Pc) : Prop := ∀ r, 0 ≤ r → lab ps r = lab qs r
theorem sameRows.app {ps qs : List Pc} (xs : List Pc) (hx : allC xs) (h : sameRows ps qs) : sameRows (xs ++ ps) (xs ++ qs) := fun r hr => by
  rw [lab_app hx hr, lab_app hx hr]
  split
  · rfl
  · exact h _ (by have := tot_nonneg hx; omega)
theorem snoc_cases {α : Type} (xs : List α) : xs = [] ∨ ∃ init x, xs = init ++ [x] := by
  rcases List.eq_nil_or_concat xs with h | ⟨i, x, h⟩
  · exact .inl h
  · exact .inr ⟨i, x, by rw [h, List.concat_eq_append]⟩
structure NormOk (found ps R : List Pc) : Prop where
  lay : Lay R
  nr : nrm R
  eq : sameRows R (found ++ ps)
  ln : R.length ≤ found.length + ps.length
theorem normF_ok {found : List Pc} {p : Pc} (hf : allC found) (hn : nrm found) (hp : p.valid = true) :
    nrm (normF found p) ∧ (∀ rest, sameRows (normF found p ++ rest) (found ++ p :: rest)) ∧ (normF found p).length ≤ found.length + 1 ∧ (∃ init b, normF found p = init ++ [b] ∧ allC init ∧ b.valid = true ∧ b.isOpen = p.isOpen) := by
  rcases snoc_cases found with rfl | ⟨init, q, rfl⟩
  · exact ⟨trivial, fun rest r hr => rfl, by simp [normF], [], p, rfl, by simp [allC], hp, rfl⟩
  · obtain ⟨h1, h2⟩ := allC_app.mp hf
    obtain ⟨hq, ho⟩ := h2 q (by simp)
    cases hw : weld q p with
    | none =>
      have e : normF (init ++ [q]) p = init ++ [q] ++ [p] := by simp [normF, hw]
      rw [e]
      exact ⟨nrm_snoc.mpr ⟨hn, hw⟩, fun rest r hr => by simp, by simp, init ++ [q], p, rfl, hf, hp, rfl⟩
    | some b =>
      have e : normF (init ++ [q]) p = init ++ [b] := by simp [normF, hw]
      rw [e]
      obtain ⟨w1, w2, w3⟩ := weld_ok hq ho hp hw
      refine ⟨nrm_last (weld_same hw) hn, fun rest => ?_, by simp, init, b, rfl, h1, w1, w2⟩
      have := sameRows.app init h1 (w3 rest)
      simpa using this
theorem fold_ok : ∀ (ps found : List Pc), Lay ps → allC found → nrm found → NormOk found ps (ps.foldl normF found)
  | [], _, h, _, _ => absurd rfl h.ne
  | p :: ps, found, h, hf, hn => by
    rw [List.foldl_cons]
    rcases h.cases with ⟨a, rfl, rfl, ha⟩ | ⟨hv, ho, hl⟩
    · obtain ⟨n1, n2, n3, init, b, n4, n5, n6, n7⟩ := normF_ok hf hn (p := .old a none) (by simp [Pc.valid, ha])
      refine ⟨?_, n1, by simpa using n2 [], by simpa using n3⟩
      rw [List.foldl_nil, n4]
      cases b with
      | old c d => cases d with
        | none =>
          simp [Pc.valid] at n6
          exact ⟨init, c, rfl, n5, n6⟩
        | some d => simp at n7
      | top n => simp at n7
      | new l k n => simp at n7
    · obtain ⟨n1, n2, n3, init, b, n4, n5, n6, n7⟩ := normF_ok hf hn hv
      have hc : allC (normF found p) := by
        rw [n4]
        refine allC_app.mpr ⟨n5, fun x hx => ?_⟩
        simp at hx
        subst hx
        exact ⟨n6, by rw [n7, ho]⟩
      obtain ⟨r1, r2, r3, r4⟩ := fold_ok ps (normF found p) hl hc n1
      refine ⟨r1, r2, fun r hr => by rw [r3 r hr, n2 ps r hr], by simp; omega⟩
theorem norm_ok {ps : List Pc} (h : Lay ps) : NormOk [] ps (norm ps) := fold_ok ps [] h (by simp [allC]) trivial
theorem Whole.of_rows {ps qs : List Pc} (h : Whole ps) (hl : Lay qs) (e : sameRows qs ps) : Whole qs := by
  refine ⟨hl, fun i j hi hj => by rw [e i hi, e j (by omega)]; exact h.good.mono i j hi hj, fun i x hi hx => h.good.ok i x hi (by rw [← e i hi]; exact hx), lab_tail hl⟩
theorem Whole.norm {ps : List Pc} (h : Whole ps) : Whole (norm ps) ∧ nrm (norm ps) ∧ sameRows (norm ps) ps := by
  have n := norm_ok h.lay
  have e : sameRows (PR.norm ps) ps := n.eq
  exact ⟨h.of_rows n.lay e, n.nr, e⟩
/-- normal forms with the same rows are the same -/
theorem canon_head {p q : Pc} {ps qs : List Pc} {s : Int} (hp : Lay (p :: ps)) (hq : Lay (q :: qs)) (nq : nrm (p :: ps)) (e : sameRows (p :: ps) (q :: qs)) (hs : p.size = some s) (hsq : ∀ t, q.size = some t → s < t) : False := by
  have val : ∀ {p : Pc} {ps : List Pc}, Lay (p :: ps) → p.valid = true := fun {p ps} h => by
    rcases h.cases with ⟨a, rfl, rfl, ha⟩ | ⟨hv, ho, hl⟩
    · simp [Pc.valid, ha]
    · exact hv
  rcases hp.cases with ⟨a, rfl, rfl, ha⟩ | ⟨hv, ho, hl⟩
  · cases hs
  · have h1 := size_pos hv hs
    have qat : ∀ r, 0 ≤ r → r ≤ s → lab (q :: qs) r = q.at_ r := fun r h0 hr => by
      cases ht : q.size with
      | none => simp only [lab, ht]
      | some t =>
        simp only [lab, ht]
        rw [if_pos (by have := hsq t ht; omega)]
    cases ps with
    | nil => exact hl.ne rfl
    | cons x xs =>
      have e0 := e 0 (Int.le_refl _)
      rw [lab_head hp, lab_head hq] at e0
      have e1 := e (s - 1) (by omega)
      have e2 := e s (by omega)
      rw [qat _ (by omega) (by omega)] at e1 e2
      have f1 : lab (p :: x :: xs) (s - 1) = p.last := by
        simp only [lab, hs]
        rw [if_pos (by omega), lab_last hs]
      have f2 : lab (p :: x :: xs) s = x.first := by
        simp only [lab, hs]
        rw [if_neg (by omega), show s - s = 0 by omega]
        exact lab_head hl
      rw [f1] at e1
      rw [f2] at e2
      have vx := val hl
      have vq := val hq
      have w : weld p x = none := nq.1
      cases p with
      | top n => cases q <;> simp [Pc.first] at e0; cases x <;> simp [Pc.first, Pc.at_] at e2; simp [weld] at w
      | old a b =>
        cases b with
        | none => cases ho
        | some b =>
          simp [Pc.size] at hs
          cases q with
          | top m => cases e0
          | old c d =>
            simp [Pc.first] at e0
            subst e0
            cases x with
            | top m => cases e2
            | old c2 d2 =>
              simp [Pc.first, Pc.at_] at e2
              simp [weld] at w
              omega
            | new l k m =>
              simp [Pc.first, Pc.at_] at e2
              simp [Pc.valid] at vx
              omega
          | new l k m =>
            simp [Pc.first] at e0
            simp [Pc.valid] at vq
            omega
      | new l k n =>
        simp [Pc.valid] at hv
        cases q with
        | top m => cases e0
        | old c d =>
          simp [Pc.first] at e0
          omega
        | new l' k' m =>
          simp [Pc.first] at e0
          obtain ⟨rfl, rfl⟩ := e0
          cases x with
          | top m => cases e2
          | old c2 d2 =>
            simp [Pc.first, Pc.at_] at e2
            omega
          | new l2 k2 m2 =>
            simp [Pc.first, Pc.at_] at e2
            obtain ⟨rfl, rfl⟩ := e2
            simp [weld] at w
theorem canon : ∀ (ps qs : List Pc), Lay ps → Lay qs → nrm ps → nrm qs → sameRows ps qs → ps = qs
  | [], _, h, _, _, _, _ => absurd rfl h.ne
  | _, [], _, h, _, _, _ => absurd rfl h.ne
  | p :: ps, q :: qs, hp, hq, np, nq, e => by
    have e0 := e 0 (Int.le_refl _)
    rw [lab_head hp, lab_head hq] at e0
    have es : sameRows (q :: qs) (p :: ps) := fun r hr => (e r hr).symm
    rcases hp.cases with ⟨a, rfl, rfl, ha⟩ | ⟨hv, ho, hl⟩
    · rcases hq.cases with ⟨c, rfl, rfl, hc⟩ | ⟨hv2, ho2, hl2⟩
      · simp [Pc.first] at e0
        rw [e0]
      · obtain ⟨s, hs⟩ := size_closed ho2
        exact (canon_head hq hp nq es hs (fun t ht => by cases ht)).elim
    · obtain ⟨s, hs⟩ := size_closed ho
      rcases hq.cases with ⟨c, rfl, rfl, hc⟩ | ⟨hv2, ho2, hl2⟩
      · exact (canon_head hp hq np e hs (fun t ht => by cases ht)).elim
      · obtain ⟨t, ht⟩ := size_closed ho2
        have est : s = t := by
          rcases Int.lt_trichotomy s t with h | h | h
          · exact (canon_head hp hq np e hs (fun t' ht' => by rw [ht] at ht'; cases ht'; exact h)).elim
          · exact h
          · exact (canon_head hq hp nq es ht (fun t' ht' => by rw [hs] at ht'; cases ht'; exact h)).elim
        subst est
        have h1 := size_pos hv hs
        have epq : p = q := by
          cases p with
          | top n => cases q <;> simp [Pc.first] at e0; simp [Pc.size] at hs ht; rw [hs, ht]
          | old a b => cases b with
            | none => cases ho
            | some b => cases q with
              | top m => cases e0
              | old c d => cases d with
                | none => cases ho2
                | some d =>
                  simp [Pc.first] at e0
                  simp [Pc.size] at hs ht
                  subst e0
                  rw [show b = d by omega]
              | new l k m =>
                simp [Pc.first] at e0
                simp [Pc.valid] at hv2
                omega
          | new l k n =>
            simp [Pc.valid] at hv
            cases q with
            | top m => cases e0
            | old c d =>
              simp [Pc.first] at e0
              omega
            | new l' k' m =>
              simp [Pc.first] at e0
              simp [Pc.size] at hs ht
              rw [e0.1, e0.2, hs, ht]
        subst epq
        have et : sameRows ps qs := fun r hr => by
          have := e (r + s) (by omega)
          simp only [lab, hs] at this
          rwa [if_neg (by omega), if_neg (by omega), show r + s - s = r by omega] at this
        rw [canon ps qs hl hl2 (nrm_tail np) (nrm_tail nq) et]
end PR
/-! Q6: commands on rows, in plain Lean. -/
namespace PR
abbrev Rf := Int → Option Lab
def midL (x y : Option Lab) : Option Lab := match x, y with
  | some x, some y => some (x.1, y.2)
  | _, _ => none
/-- rows inserted, deleted -/
def insL (f : Rf) (i n : Int) : Rf := fun r => if r < i then f r else if r < i + n then (if i = 0 then none else midL (f (i - 1)) (f i)) else f (r - n)
def delL (f : Rf) (a b : Int) : Rf := fun r => if r < a then f r else f (r + (b - a + 1))
def cmdL (f : Rf) : Cmd → Rf
  | .ins i n => insL f i n
  | .del a b => delL f a b
theorem mid_ok {x y : Lab} (hx : labOk x) (hy : labOk y) (h : lle x y) : x.1 < y.2 := by
  obtain ⟨h1, h2, h3⟩ := h
  have a := hx.2
  have b := hy.2
  by_cases e : x.1 = x.2
  · by_cases e2 : y.1 = y.2
    · have := h3 e e2
      omega
    · omega
  · omega
theorem midL_spec {f : Rf} (g : Good f) {i : Int} (hi : 0 < i) : ole (f (i - 1)) (midL (f (i - 1)) (f i)) ∧ ole (midL (f (i - 1)) (f i)) (f i) ∧ ole (midL (f (i - 1)) (f i)) (midL (f (i - 1)) (f i)) ∧ (∀ x, midL (f (i - 1)) (f i) = some x → 0 ≤ x.1 ∧ x.1 < x.2) := by
  have m := g.mono (i - 1) i (by omega) (by omega)
  have o1 := g.ok (i - 1)
  have o2 := g.ok i
  cases h1 : f (i - 1) with
  | none => refine ⟨trivial, trivial, trivial, fun x e => by cases h2 : f i <;> rw [h2] at e <;> cases e⟩
  | some x => cases h2 : f i with
    | none => rw [h1, h2] at m; exact m.elim
    | some y =>
      rw [h1, h2] at m
      have k1 := o1 x (by omega) h1
      have k2 := o2 y (by omega) h2
      have k := mid_ok k1 k2 m
      obtain ⟨m1, m2, m3⟩ := m
      refine ⟨⟨Int.le_refl _, m2, fun _ e => ?_⟩, ⟨m1, Int.le_refl _, fun e _ => ?_⟩, ⟨Int.le_refl _, Int.le_refl _, fun e _ => ?_⟩, fun z e => ?_⟩
      · have e : x.1 = y.2 := e; omega
      · have e : x.1 = y.2 := e; omega
      · have e : x.1 = y.2 := e; omega
      · cases e
        exact ⟨k1.1, k⟩
theorem Good.ins {f : Rf} (g : Good f) {i n : Int} (hi : 0 ≤ i) (hn : 1 ≤ n) : Good (insL f i n) := by
  have fr : ∀ r, r < i → insL f i n r = f r := fun r h => by unfold insL; rw [if_pos h]
  have bk : ∀ r, i + n ≤ r → insL f i n r = f (r - n) := fun r h => by unfold insL; rw [if_neg (by omega), if_neg (by omega)]
  have md : ∀ r, i ≤ r → r < i + n → insL f i n r = if i = 0 then none else midL (f (i - 1)) (f i) := fun r h h2 => by unfold insL; rw [if_neg (by omega), if_pos h2]
  refine ⟨fun r t h0 hrt => ?_, fun r x h0 e => ?_, ?_⟩
  · by_cases c1 : t < i
    · rw [fr r (by omega), fr t c1]
      exact g.mono r t h0 hrt
    · by_cases c2 : i + n ≤ r
      · rw [bk r c2, bk t (by omega)]
        exact g.mono _ _ (by omega) (by omega)
      · by_cases e0 : i = 0
        · rw [md r (by omega) (by omega), if_pos e0]
          trivial
        · obtain ⟨s1, s2, s3, s4⟩ := midL_spec g (i := i) (by omega)
          have lo : ∀ r, 0 ≤ r → r < i → ole (f r) (f (i - 1)) ∨ r = i - 1 := fun r h h2 => by
            by_cases z : r = i - 1
            · exact .inr z
            · exact .inl (g.mono r (i - 1) h (by omega))
          by_cases c3 : r < i
          · rw [fr r c3]
            by_cases c4 : t < i + n
            · rw [md t (by omega) c4, if_neg e0]
              rcases lo r h0 c3 with z | z
              · exact ole_trans z s1
              · rw [z]; exact s1
            · rw [bk t (by omega)]
              exact g.mono _ _ h0 (by omega)
          · rw [md r (by omega) (by omega), if_neg e0]
            by_cases c4 : t < i + n
            · rw [md t (by omega) c4, if_neg e0]
              exact s3
            · rw [bk t (by omega)]
              by_cases z : t - n = i
              · rw [z]; exact s2
              · exact ole_trans s2 (g.mono i (t - n) hi (by omega))
  · by_cases c1 : r < i
    · rw [fr r c1] at e; exact g.ok r x h0 e
    · by_cases c2 : r < i + n
      · rw [md r (by omega) c2] at e
        by_cases e0 : i = 0
        · rw [if_pos e0] at e; cases e
        · rw [if_neg e0] at e
          have := (midL_spec g (i := i) (by omega)).2.2.2 x e
          exact ⟨this.1, by omega⟩
      · rw [bk r (by omega)] at e
        exact g.ok _ x (by omega) e
  · obtain ⟨m, v, h1, h2, h3⟩ := g.tail
    refine ⟨max (i + n) (m + n), v + (max (i + n) (m + n) - n - m), by omega, by omega, fun r hr => ?_⟩
    rw [bk r (by omega), h3 _ (by omega)]
    congr 2 <;> omega
theorem Good.del {f : Rf} (g : Good f) {a b : Int} (ha : 0 ≤ a) (hb : a ≤ b) : Good (delL f a b) := by
  have fr : ∀ r, r < a → delL f a b r = f r := fun r h => by unfold delL; rw [if_pos h]
  have bk : ∀ r, a ≤ r → delL f a b r = f (r + (b - a + 1)) := fun r h => by unfold delL; rw [if_neg (by omega)]
  refine ⟨fun r t h0 hrt => ?_, fun r x h0 e => ?_, ?_⟩
  · by_cases c1 : t < a
    · rw [fr r (by omega), fr t c1]
      exact g.mono r t h0 hrt
    · rw [bk t (by omega)]
      by_cases c2 : r < a
      · rw [fr r c2]
        exact g.mono _ _ h0 (by omega)
      · rw [bk r (by omega)]
        exact g.mono _ _ (by omega) (by omega)
  · by_cases c1 : r < a
    · rw [fr r c1] at e; exact g.ok r x h0 e
    · rw [bk r (by omega)] at e
      exact g.ok _ x (by omega) e
  · obtain ⟨m, v, h1, h2, h3⟩ := g.tail
    refine ⟨max a m, v + (max a m + (b - a + 1) - m), by omega, by omega, fun r hr => ?_⟩
    rw [bk r (by omega), h3 _ (by omega)]
    congr 2 <;> omega
theorem Good.cmd {f : Rf} (g : Good f) {c : Cmd} (h : c.ok = true) : Good (cmdL f c) := by
  cases c with
  | ins i n => simp [Cmd.ok] at h; exact g.ins h.1 h.2
  | del a b => simp [Cmd.ok] at h; exact g.del h.1 h.2
/-! ### the pieces behind a command -/
theorem allC_tot0 {ps : List Pc} (h : allC ps) (e : tot ps = 0) : ps = [] := by
  cases ps with
  | nil => rfl
  | cons p ps =>
    obtain ⟨⟨h1, h2⟩, h3⟩ := allC_cons.mp h
    obtain ⟨s, hs⟩ := size_closed h2
    have := size_pos h1 hs
    have := tot_nonneg h3
    simp [tot, hs] at e
    omega
theorem lab_end {b : List Pc} {q : Pc} (h : allC (b ++ [q])) : lab (b ++ [q]) (tot (b ++ [q]) - 1) = q.last := by
  obtain ⟨h1, h2⟩ := allC_app.mp h
  obtain ⟨k1, k2⟩ := h2 q (by simp)
  obtain ⟨s, hs⟩ := size_closed k2
  have := size_pos k1 hs
  have := tot_nonneg h1
  have e : tot (b ++ [q]) = tot b + s := by simp [tot_app, tot, hs]
  rw [e, lab_app h1 (by omega), if_neg (by omega)]
  simp only [lab, hs]
  rw [if_pos (by omega), show tot b + s - 1 - tot b = s - 1 by omega, lab_last hs]
theorem closed_last {q : Pc} (h : q.isOpen = false) (ht : q.last = none) : ∃ n, q = .top n := by
  cases q with
  | top n => exact ⟨n, rfl⟩
  | old a b => cases b with
    | none => cases h
    | some b => cases ht
  | new l k n => cases ht
theorem lab_one {p : Pc} {n : Int} {ps : List Pc} (hs : p.size = some n) {r : Int} : lab (p :: ps) r = if r < n then p.at_ r else lab ps (r - n) := by
  simp only [lab, hs]
structure CmdOk (ps : List Pc) (c : Cmd) (R : List Pc) : Prop where
  wh : Whole R
  nr : nrm R
  eq : ∀ r, 0 ≤ r → lab R r = cmdL (lab ps) c r
  ln : R.length ≤ ps.length + 2
theorem CmdOk.of {ps qs : List Pc} {c : Cmd} (h : Whole ps) (hc : c.ok = true) (hl : Lay qs) (e : ∀ r, 0 ≤ r → lab qs r = cmdL (lab ps) c r) (ln : qs.length ≤ ps.length + 2) : CmdOk ps c (norm qs) := by
  have g := h.good.cmd hc
  have w : Whole qs := ⟨hl, fun i j hi hj => by rw [e i hi, e j (by omega)]; exact g.mono i j hi hj, fun i x hi hx => g.ok i x hi (by rw [← e i hi]; exact hx), lab_tail hl⟩
  obtain ⟨n1, n2, n3⟩ := w.norm
  refine ⟨n1, n2, fun r hr => by rw [n3 r hr, e r hr], ?_⟩
  have := (norm_ok hl).ln
  simp at this
  omega
theorem insF_ok {ps : List Pc} (h : Whole ps) {i n : Int} (hi : 0 ≤ i) (hn : 1 ≤ n) : CmdOk ps (.ins i n) (insF ps i n) := by
  have ck := cut_ok ps i h.lay hi
  unfold insF
  cases hcut : cutF ps i with
  | mk b a => ?_
  rw [hcut] at ck
  simp only at ck ⊢
  have hc : (Cmd.ins i n).ok = true := by simp [Cmd.ok, hi, hn]
  have tb := ck.tt
  -- what stands between
  have fin : ∀ p : Pc, p.valid = true → p.size = some n → p.isOpen = false → (∀ r, 0 ≤ r → p.at_ r = if i = 0 then none else midL (lab ps (i - 1)) (lab ps i)) → CmdOk ps (.ins i n) (norm (b ++ p :: a)) := by
    intro p pv ps' po pa
    refine CmdOk.of h hc (Lay.app ck.cl (Lay.cons pv po ck.la)) (fun r hr => ?_) (by have := ck.ln; simp; omega)
    rw [lab_app ck.cl hr, tb]
    show _ = insL (lab ps) i n r
    unfold insL
    by_cases c1 : r < i
    · rw [if_pos c1, if_pos c1, ck.fr r hr c1]
    · rw [if_neg c1, if_neg c1, lab_one ps']
      by_cases c2 : r - i < n
      · rw [if_pos c2, if_pos (by omega), pa _ (by omega)]
      · rw [if_neg c2, if_neg (by omega), ck.bk _ (by omega)]
        congr 1
        omega
  have ahead : ∀ ps', ps' = b ++ .top n :: a → (∀ r : Int, 0 ≤ r → none = if i = 0 then none else midL (lab ps (i - 1)) (lab ps i)) → CmdOk ps (.ins i n) (norm ps') := fun ps' e h => by
    rw [e]
    exact fin (.top n) (by simp [Pc.valid, hn]) rfl rfl h
  rcases snoc_cases b with rfl | ⟨b', q, rfl⟩
  · have e0 : i = 0 := by simpa [tot] using tb.symm
    exact ahead _ (by simp) (fun r hr => by rw [if_pos e0])
  · have hb := allC_app.mp ck.cl
    obtain ⟨q1, q2⟩ := hb.2 q (by simp)
    obtain ⟨s, hs⟩ := size_closed q2
    have s1 := size_pos q1 hs
    have t0 := tot_nonneg hb.1
    have ei : i = tot b' + s := by rw [← tb]; simp [tot_app, tot, hs]
    have i0 : 0 < i := by omega
    have la : lab ps (i - 1) = q.last := by
      rw [← ck.fr (i - 1) (by omega) (by omega), ← tb]
      exact lab_end ck.cl
    have lb : lab ps i = (a.head?.bind Pc.first) := by
      have := ck.bk 0 (Int.le_refl _)
      rw [show 0 + i = i by omega] at this
      rw [← this]
      cases a with
      | nil => exact absurd rfl ck.la.ne
      | cons x xs => rw [lab_head ck.la]; rfl
    have eb : (b' ++ [q]).getLast?.bind Pc.last = q.last := by simp
    show CmdOk ps (.ins i n) (norm (match (b' ++ [q]).getLast?.bind Pc.last with
      | none => (b' ++ [q]) ++ .top n :: a
      | some x => (b' ++ [q]) ++ .new x.1 ((a.head?.bind Pc.first).getD (0, 0)).2 n :: a))
    rw [eb, ← lb]
    have sp := midL_spec h.good i0
    have mo := h.good.mono (i - 1) i (by omega) (by omega)
    rw [la] at sp mo
    cases hq : q.last with
    | none =>
      refine ahead _ rfl (fun r hr => ?_)
      rw [if_neg (by omega), la, hq]
      rfl
    | some x =>
      rw [hq] at sp mo
      cases hy : lab ps i with
      | none => rw [hy] at mo; exact mo.elim
      | some y =>
        rw [hy] at sp
        have := sp.2.2.2 _ rfl
        refine fin (.new x.1 y.2 n) (by simp [Pc.valid]; exact ⟨this, hn⟩) rfl rfl (fun r hr => ?_)
        rw [if_neg (by omega), la, hq, hy]
        rfl
theorem cut_mono : ∀ (ps : List Pc) (a b : Int), Lay ps → a ≤ b → (cutF ps a).1.length ≤ (cutF ps b).1.length
  | [], _, _, h, _ => absurd rfl h.ne
  | p :: ps, a, b, h, hab => by
    by_cases ha : a ≤ 0
    · simp [cutF, ha]
    · have hb : ¬ b ≤ 0 := by omega
      cases hs : p.size with
      | none => simp [cutF, ha, hb, hs]
      | some s =>
        by_cases h1 : s > a
        · by_cases h2 : s > b <;> simp [cutF, ha, hb, hs, h1, h2]
        · have h2 : ¬ s > b := by omega
          rcases h.cases with ⟨c, rfl, rfl, hc⟩ | ⟨hv, ho, hl⟩
          · cases hs
          · have := cut_mono ps (a - s) (b - s) hl (by omega)
            simp [cutF, ha, hb, hs, h1, h2, this]
theorem delF_ok {ps : List Pc} (h : Whole ps) {a b : Int} (ha : 0 ≤ a) (hb : a ≤ b) : CmdOk ps (.del a b) (delF ps a b) := by
  have c1 := cut_ok ps a h.lay ha
  have c2 := cut_ok ps (b + 1) h.lay (by omega)
  unfold delF
  refine CmdOk.of h (by simp [Cmd.ok, ha, hb]) (Lay.app c1.cl c2.la) (fun r hr => ?_) ?_
  · rw [lab_app c1.cl hr, c1.tt]
    show _ = delL (lab ps) a b r
    unfold delL
    by_cases e : r < a
    · rw [if_pos e, if_pos e, c1.fr r hr e]
    · rw [if_neg e, if_neg e, c2.bk _ (by omega)]
      congr 1
      omega
  · have l1 := c1.ln
    have l2 := c2.ln
    have l3 := cut_mono ps a (b + 1) h.lay (by omega)
    simp
    omega
end PR
/-! Q7: counted rows, carried spans, in plain Lean. -/
namespace PR
/-- rows without a label, or with a low (high) less than t -/
def sel (k : Bool) (x : Lab) : Int := if k then x.2 else x.1
def cntF (k : Bool) : List Pc → Int → Int
  | [], _ => 0
  | p :: ps, t => match p.first with
    | none => p.size.getD 0 + cntF k ps t
    | some x => if t - sel k x ≤ 0 then 0 else if p.isOld = true ∧ (p.size = none ∨ t - sel k x < p.size.getD 0) then t - sel k x else p.size.getD 0 + cntF k ps t
def overL (k : Bool) (t : Int) : Option Lab → Bool
  | none => false
  | some x => decide (t ≤ sel k x)
/-- from r on -/
structure Thr (P : Option Lab → Bool) (f : Rf) (r : Int) : Prop where
  nn : 0 ≤ r
  iff : ∀ i, 0 ≤ i → (P (f i) = true ↔ r ≤ i)
theorem Thr.uniq {P : Option Lab → Bool} {f : Rf} {r s : Int} (h : Thr P f r) (g : Thr P f s) : r = s := by
  have a := (h.iff s g.nn).mp ((g.iff s g.nn).mpr (Int.le_refl _))
  have b := (g.iff r h.nn).mp ((h.iff r h.nn).mpr (Int.le_refl _))
  omega
theorem over_mono {k : Bool} {t : Int} {x y : Option Lab} (h : ole x y) (hx : overL k t x = true) : overL k t y = true := by
  cases x with
  | none => cases hx
  | some x => cases y with
    | none => exact h.elim
    | some y =>
      have a := h.1
      have b := h.2.1
      cases k <;> simp [overL, sel] at * <;> omega
theorem Good.shift {p : Pc} {ps : List Pc} {s : Int} (hs : p.size = some s) (h1 : 1 ≤ s) (hl : Lay ps) (g : Good (lab (p :: ps))) : Good (lab ps) := by
  have sh : ∀ i, 0 ≤ i → lab ps i = lab (p :: ps) (i + s) := fun i hi => by
    simp only [lab, hs]
    rw [if_neg (by omega), show i + s - s = i by omega]
  exact ⟨fun i j hi hj => by rw [sh i hi, sh j (by omega)]; exact g.mono _ _ (by omega) (by omega), fun i x hi e => g.ok (i + s) x (by omega) (by rw [← sh i hi]; exact e), lab_tail hl⟩
theorem cntF_ok (k : Bool) (t : Int) : ∀ ps : List Pc, Lay ps → Good (lab ps) → Thr (overL k t) (lab ps) (cntF k ps t)
  | [], h, _ => absurd rfl h.ne
  | p :: ps, h, g => by
    have all0 : ∀ x, p.first = some x → t - sel k x ≤ 0 → Thr (overL k t) (lab (p :: ps)) 0 := fun x hx ht => by
      refine ⟨Int.le_refl _, fun i hi => ⟨fun _ => hi, fun _ => ?_⟩⟩
      have h0 : overL k t (lab (p :: ps) 0) = true := by
        rw [lab_head h, hx]
        simp [overL]
        omega
      by_cases e : i = 0
      · rw [e]; exact h0
      · exact over_mono (g.mono 0 i (Int.le_refl _) (by omega)) h0
    rcases h.cases with ⟨a, rfl, rfl, ha⟩ | ⟨hv, ho, hl⟩
    · have e0 : sel k (a, a) = a := by cases k <;> rfl
      simp only [cntF, Pc.first, e0, isOld_o, Pc.size]
      by_cases c : t - a ≤ 0
      · rw [if_pos c]
        exact all0 (a, a) rfl (by rw [e0]; exact c)
      · rw [if_neg c, if_pos (by simp)]
        refine ⟨by omega, fun i hi => ?_⟩
        simp only [lab, Pc.size, Pc.at_, overL]
        rw [decide_eq_true_iff]
        cases k <;> simp [sel] <;> omega
    · obtain ⟨s, hs⟩ := size_closed ho
      have h1 := size_pos hv hs
      have ih := cntF_ok k t ps hl (g.shift hs h1 hl)
      have ext : (∀ i, 0 ≤ i → i < s → overL k t (p.at_ i) = false) → Thr (overL k t) (lab (p :: ps)) (s + cntF k ps t) := fun low => by
        have n0 := ih.nn
        refine ⟨by omega, fun i hi => ?_⟩
        rw [lab_one hs]
        by_cases e : i < s
        · rw [if_pos e, low i hi e]
          constructor
          · intro z; cases z
          · omega
        · rw [if_neg e, ih.iff _ (by omega)]
          omega
      cases hf : p.first with
      | none =>
        simp only [cntF, hf, hs, Option.getD_some]
        refine ext fun i _ _ => ?_
        cases p with
        | top n => rfl
        | old a b => cases hf
        | new l h n => cases hf
      | some x =>
        simp only [cntF, hf, hs, Option.getD_some]
        by_cases c : t - sel k x ≤ 0
        · rw [if_pos c]
          exact all0 x hf c
        · rw [if_neg c]
          cases p with
          | top n => cases hf
          | new l h n =>
            cases hf
            rw [if_neg (by simp)]
            refine ext fun i _ _ => ?_
            simp [Pc.at_, overL]
            omega
          | old a b =>
            cases hf
            have e0 : sel k (a, a) = a := by cases k <;> rfl
            rw [e0] at c ⊢
            by_cases c2 : t - a < s
            · rw [if_pos (by simp [c2])]
              refine ⟨by omega, fun i hi => ?_⟩
              by_cases e : i < s
              · rw [lab_one hs, if_pos e]
                simp only [Pc.at_, overL]
                rw [decide_eq_true_iff]
                cases k <;> simp [sel] <;> omega
              · have hm : overL k t (lab (Pc.old a b :: ps) (t - a)) = true := by
                  rw [lab_one hs, if_pos c2]
                  simp only [Pc.at_, overL]
                  rw [decide_eq_true_iff]
                  cases k <;> simp [sel] <;> omega
                exact ⟨fun _ => by omega, fun _ => over_mono (g.mono (t - a) i (by omega) (by omega)) hm⟩
            · rw [if_neg (by simp; omega)]
              refine ext fun i h0 h2 => ?_
              simp only [Pc.at_, overL]
              rw [decide_eq_false_iff_not]
              cases k <;> simp [sel] <;> omega
def rbF (ps : List Pc) (a : Int) : Int := cntF false ps a
def rwF (ps : List Pc) (b : Int) : Int := cntF true ps (b + 1)
abbrev Span := Int × Option Int
/-- what pieces make of a span -/
def carF (ps : List Pc) (s : Span) : Option Span := match s.2 with
  | none => some (rbF ps s.1, none)
  | some b => if rwF ps b - 1 < rbF ps s.1 then none else some (rbF ps s.1, some (rwF ps b - 1))
def Span.ok (s : Span) : Bool := decide (0 ≤ s.1) && (match s.2 with
  | none => true
  | some b => decide (s.1 ≤ b))
/-- a row is in a span -/
def inL (a b : Int) : Option Lab → Bool
  | none => false
  | some x => decide (a ≤ x.1) && decide (x.2 ≤ b)
theorem car_mem {ps : List Pc} (h : Whole ps) (a b : Int) {i : Int} (hi : 0 ≤ i) : inL a b (lab ps i) = true ↔ rbF ps a ≤ i ∧ i ≤ rwF ps b - 1 := by
  have t1 := (cntF_ok false a ps h.lay h.good).iff i hi
  have t2 := (cntF_ok true (b + 1) ps h.lay h.good).iff i hi
  unfold rbF rwF
  rw [← t1]
  have : (i ≤ cntF true ps (b + 1) - 1) ↔ ¬ (cntF true ps (b + 1) ≤ i) := by omega
  rw [this, ← t2]
  cases lab ps i with
  | none =>
    simp [inL, overL]
  | some x =>
    simp [inL, overL, sel]
    omega
theorem rb_mem {ps : List Pc} (h : Whole ps) (a : Int) {i : Int} (hi : 0 ≤ i) : (∃ x, lab ps i = some x ∧ a ≤ x.1) ↔ rbF ps a ≤ i := by
  have t1 := (cntF_ok false a ps h.lay h.good).iff i hi
  unfold rbF
  rw [← t1]
  cases lab ps i with
  | none => simp [overL]
  | some x => simp [overL, sel]
theorem rb_nn {ps : List Pc} (h : Whole ps) (a : Int) : 0 ≤ rbF ps a := (cntF_ok false a ps h.lay h.good).nn
theorem rw_nn {ps : List Pc} (h : Whole ps) (b : Int) : 0 ≤ rwF ps b := (cntF_ok true (b + 1) ps h.lay h.good).nn
end PR
/-! M2: cutting pieces, commands, what is carried: promises. -/
namespace PR
open PySem PySem.Spec PyProof.Rows L2 DL
def Cmd.d : Cmd → D
  | .ins i n => .tup [.str "insert", .int i, .int n]
  | .del a b => .tup [.str "delete", .int a, .int b]
theorem Cmd.d_ins (i n : Int) : (Cmd.ins i n).d = .tup [.str "insert", .int i, .int n] := rfl
theorem Cmd.d_del (i n : Int) : (Cmd.del i n).d = .tup [.str "delete", .int i, .int n] := rfl
@[simp] theorem Cmd.imm_d (c : Cmd) : c.d.imm = true := by cases c <;> rfl
@[simp] theorem Cmd.d_inj {p q : Cmd} : p.d = q.d ↔ p = q := by
  cases p <;> cases q <;> simp [Cmd.d]
/-- tuples that are no commands -/
inductive Odd where
  | move | ins1 | nil | Ins | del3 | del0 | empty | del31
  deriving DecidableEq
def Odd.d : Odd → D
  | .move => .tup [.str "move", .int 1, .int 2]
  | .ins1 => .tup [.str "insert", .int 1]
  | .nil => .tup []
  | .Ins => .tup [.str "Insert", .int 1, .int 1]
  | .del3 => .tup [.str "delete", .int 0, .int 0, .int 0]
  | .del0 => .tup [.str "delete"]
  | .empty => .tup [.str "", .int 1, .int 1]
  | .del31 => .tup [.str "delete", .int 1, .int 1, .int 1]
inductive Itm where
  | cmd (c : Cmd) | odd (o : Odd)
def Itm.d : Itm → D
  | .cmd c => c.d
  | .odd o => o.d
def Itm.ok : Itm → Bool
  | .cmd c => c.ok
  | .odd _ => false
theorem Itm.d_cmd (c : Cmd) : (Itm.cmd c).d = c.d := rfl
@[simp] theorem Itm.imm_d (it : Itm) : it.d.imm = true := by
  cases it with
  | cmd c => exact Cmd.imm_d c
  | odd o => cases o <;> rfl
theorem Odd.ne_cmd (c : Cmd) (o : Odd) : ¬ c.d = o.d := by
  cases c <;> cases o <;> simp [Cmd.d, Odd.d] <;> decide
theorem Odd.d_inj {p q : Odd} : p.d = q.d ↔ p = q := by
  cases p <;> cases q <;> simp [Odd.d] <;> decide
@[simp] theorem Itm.d_inj {p q : Itm} : p.d = q.d ↔ p = q := by
  cases p with
  | cmd c => cases q with
    | cmd c' => simp [Itm.d]
    | odd o => simpa [Itm.d] using Odd.ne_cmd c o
  | odd o => cases q with
    | cmd c' => simpa [Itm.d] using fun z => Odd.ne_cmd c' o (Eq.symm z)
    | odd o' => simpa [Itm.d] using Odd.d_inj
def cmdsD (cs : List Cmd) : List D := cs.map Cmd.d
@[simp] theorem imm_cmds (cs : List Cmd) : immAll (cmdsD cs) = true := by
  induction cs with
  | nil => rfl
  | cons p ps ih => simpa [cmdsD] using ih
@[simp] theorem imm_cmds' (cs : List Cmd) : immAll (cs.map Cmd.d) = true := imm_cmds cs
@[simp] theorem cmdsD_len (cs : List Cmd) : (cmdsD cs).length = cs.length := by simp [cmdsD]
def spanD (s : Span) : D := .tup [.int s.1, oD s.2]
theorem spanD_mk (a : Int) (b : Option Int) : spanD (a, b) = .tup [.int a, oD b] := rfl
@[simp] theorem imm_oD (b : Option Int) : (oD b).imm = true := by cases b <;> rfl
@[simp] theorem imm_span (s : Span) : (spanD s).imm = true := by simp [spanD]
def ospD : Option Span → D
  | none => .non
  | some s => spanD s
@[simp] theorem imm_osp (s : Option Span) : (ospD s).imm = true := by cases s <;> simp [ospD]
def PLAIN : List Pc := [.old 0 none]
def runF (ps : List Pc) (cs : List Cmd) : List Pc := cs.foldl cmdF ps
def stD : Option (List Pc) → D
  | none => .non
  | some ps => layD ps
def C_parts_of : Ctr := fun ds Q => ∃ (p : Pc) (k : Int), ds = [p.d, .int k] ∧ Q (.v 2 (.tup [(p.cut1 k).d, (p.cut2 k).d]))
def C_cut : Ctr := fun ds Q => ∃ (ps : List Pc) (tu : Bool) (k : Int), ds = [seqOf tu (pcsD ps), .int k] ∧ Lay ps ∧ 0 ≤ k ∧ ps.length < 1000 ∧ Q (.v 2 (.tup [.lst (pcsD (cutF ps k).1), .lst (pcsD (cutF ps k).2)]))
def C_inserted : Ctr := fun ds Q => ∃ (ps : List Pc) (i n : Int), ds = [.lst (pcsD ps), .int i, .int n] ∧ Whole ps ∧ 0 ≤ i ∧ 1 ≤ n ∧ ps.length < 990 ∧ Q (.own (pcsD (insF ps i n)))
def C_deleted : Ctr := fun ds Q => ∃ (ps : List Pc) (a b : Int), ds = [.lst (pcsD ps), .int a, .int b] ∧ Whole ps ∧ 0 ≤ a ∧ a ≤ b ∧ ps.length < 990 ∧ Q (.own (pcsD (delF ps a b)))
def C_changed : Ctr := fun ds Q => ∃ (ps : List Pc) (c : Cmd), ds = [.lst (pcsD ps), c.d] ∧ Whole ps ∧ c.ok = true ∧ ps.length < 990 ∧ Q (.own (pcsD (cmdF ps c)))
def C_is_command : Ctr := fun ds Q => ∃ c : Itm, ds = [c.d] ∧ Q (.v 2 (.bl c.ok))
def C_check_script : Ctr := fun ds Q => ∃ (cs : List Cmd) (tu : Bool), ds = [seqOf tu (cmdsD cs)] ∧ (∀ c ∈ cs, c.ok = true) ∧ Q (.v 2 .non)
def C_run : Ctr := fun ds Q => ∃ (cs : List Cmd) (tu : Bool) (st : Option (List Pc)), ds = [seqOf tu (cmdsD cs), stD st] ∧ (∀ c ∈ cs, c.ok = true) ∧ (∀ ps, st = some ps → Whole ps ∧ nrm ps ∧ ps.length ≤ 60) ∧ cs.length ≤ 420 ∧ (runF (st.getD PLAIN) cs).length ≤ 60 ∧
  Q (.v 2 (layD (runF (st.getD PLAIN) cs)))
def C_is_span : Ctr := fun ds Q => ∃ s : Span, ds = [spanD s] ∧ Q (.v 2 (.bl s.ok))
def C_check_span : Ctr := fun ds Q => ∃ s : Span, ds = [spanD s] ∧ s.ok = true ∧ Q (.v 2 .non)
def C_rows_below : Ctr := fun ds Q => ∃ (ps : List Pc) (tu : Bool) (a : Int), ds = [seqOf tu (pcsD ps), .int a] ∧ Lay ps ∧ Q (.v 2 (.int (rbF ps a)))
def C_rows_within : Ctr := fun ds Q => ∃ (ps : List Pc) (tu : Bool) (b : Int), ds = [seqOf tu (pcsD ps), .int b] ∧ Lay ps ∧ Q (.v 2 (.int (rwF ps b)))
def C_carried_in : Ctr := fun ds Q => ∃ (ps : List Pc) (tu : Bool) (s : Span), ds = [seqOf tu (pcsD ps), spanD s] ∧ Lay ps ∧ Q (.v 2 (ospD (carF ps s)))
def C_carried : Ctr := fun ds Q => ∃ (ps : List Pc) (s : Span), ds = [layD ps, spanD s] ∧ Lay ps ∧ s.ok = true ∧ Q (.v 2 (ospD (carF ps s)))
/-! plain facts about runs -/
theorem nrm_norm {ps : List Pc} (h : Lay ps) (n : nrm ps) : norm ps = ps := by
  have o := norm_ok h
  exact canon _ _ o.lay h o.nr n o.eq
theorem plain_whole : Whole PLAIN := whole_of rfl
theorem cmdF_ok {ps : List Pc} (h : Whole ps) {c : Cmd} (hc : c.ok = true) : CmdOk ps c (cmdF ps c) := by
  cases c with
  | ins i n => simp [Cmd.ok] at hc; exact insF_ok h hc.1 hc.2
  | del a b => simp [Cmd.ok] at hc; exact delF_ok h hc.1 hc.2
theorem runF_ok : ∀ (cs : List Cmd) (ps : List Pc), Whole ps → nrm ps → (∀ c ∈ cs, c.ok = true) → Whole (runF ps cs) ∧ nrm (runF ps cs) ∧ (∀ r, 0 ≤ r → lab (runF ps cs) r = (cs.foldl cmdL (lab ps)) r) ∧ (runF ps cs).length ≤ ps.length + 2 * cs.length
  | [], ps, h, n, _ => ⟨h, n, fun _ _ => rfl, by simp [runF]⟩
  | c :: cs, ps, h, n, hc => by
    have k := cmdF_ok h (hc c (by simp))
    obtain ⟨a1, a2, a3, a4⟩ := runF_ok cs (cmdF ps c) k.wh k.nr fun x hx => hc x (by simp [hx])
    have ext : ∀ (cs : List Cmd) (f g : Rf), (∀ c ∈ cs, c.ok = true) → (∀ r, 0 ≤ r → f r = g r) → ∀ r, 0 ≤ r → (cs.foldl cmdL f) r = (cs.foldl cmdL g) r := by
      intro cs
      induction cs with
      | nil => intro f g _ h r hr; exact h r hr
      | cons c cs ih =>
        intro f g hc h r hr
        refine ih _ _ (fun x hx => hc x (by simp [hx])) (fun r hr => ?_) r hr
        have hk := hc c (by simp)
        cases c with
        | ins i n =>
          simp [Cmd.ok] at hk
          show insL f i n r = insL g i n r
          unfold insL
          by_cases e : r < i
          · rw [if_pos e, if_pos e, h r hr]
          · rw [if_neg e, if_neg e]
            by_cases e2 : r < i + n
            · rw [if_pos e2, if_pos e2]
              by_cases e3 : i = 0
              · rw [if_pos e3, if_pos e3]
              · rw [if_neg e3, if_neg e3, h (i - 1) (by omega), h i (by omega)]
            · rw [if_neg e2, if_neg e2, h _ (by omega)]
        | del a b =>
          simp [Cmd.ok] at hk
          show delL f a b r = delL g a b r
          unfold delL
          by_cases e : r < a
          · rw [if_pos e, if_pos e, h r hr]
          · rw [if_neg e, if_neg e, h _ (by omega)]
    refine ⟨a1, a2, fun r hr => ?_, ?_⟩
    · show lab (runF (cmdF ps c) cs) r = (cs.foldl cmdL (cmdL (lab ps) c)) r
      rw [a3 r hr]
      exact ext cs _ _ (fun x hx => hc x (by simp [hx])) k.eq r hr
    · show (runF (cmdF ps c) cs).length ≤ _
      have := k.ln
      simp
      omega
end PR
/-! U1: promises as rewrites. -/
namespace PR
open PySem PySem.Spec PyProof.Rows L2 DL
theorem pcsD_inj : ∀ {ps qs : List Pc}, pcsD ps = pcsD qs ↔ ps = qs
  | [], [] => by simp
  | [], q :: qs => by simp
  | p :: ps, [] => by simp
  | p :: ps, q :: qs => by simp [pcsD_inj (ps := ps) (qs := qs)]
theorem seqOf_inj {tu tv : Bool} {ds es : List D} : seqOf tu ds = seqOf tv es ↔ tu = tv ∧ ds = es := by cases tu <;> cases tv <;> simp [seqOf]
@[simp] theorem lst_seqOf {tu : Bool} {ds es : List D} : D.lst ds = seqOf tu es ↔ tu = false ∧ ds = es := by cases tu <;> simp [seqOf]
@[simp] theorem tup_seqOf {tu : Bool} {ds es : List D} : D.tup ds = seqOf tu es ↔ tu = true ∧ ds = es := by cases tu <;> simp [seqOf]
theorem cmdsD_inj : ∀ {ps qs : List Cmd}, cmdsD ps = cmdsD qs ↔ ps = qs
  | [], [] => by simp
  | [], q :: qs => by simp [cmdsD]
  | p :: ps, [] => by simp [cmdsD]
  | p :: ps, q :: qs => by
    have ih := cmdsD_inj (ps := ps) (qs := qs)
    simp only [cmdsD] at ih
    simp [cmdsD, ih]
theorem spanD_inj {s t : Span} : spanD s = spanD t ↔ s = t := by
  obtain ⟨a, b⟩ := s
  obtain ⟨c, d⟩ := t
  simp [spanD]
section
variable {Q : Sl → Prop}
@[simp ↓] theorem use_size_of {p : Pc} : C_size_of [p.d] Q = Q (.v 2 (oD p.size)) := by simp [C_size_of]
@[simp ↓] theorem use_first_label {p : Pc} : C_first_label [p.d] Q = Q (.v 2 (oL p.first)) := by simp [C_first_label]
@[simp ↓] theorem use_last_label {p : Pc} : C_last_label [p.d] Q = Q (.v 2 p.lastD) := by simp [C_last_label]
@[simp ↓] theorem use_parts_of {p : Pc} {k : Int} : C_parts_of [p.d, .int k] Q = Q (.v 2 (.tup [(p.cut1 k).d, (p.cut2 k).d])) := by
  apply propext
  constructor
  · rintro ⟨p', k', e, q⟩
    simp at e
    obtain ⟨rfl, rfl⟩ := e
    exact q
  · exact fun q => ⟨p, k, rfl, q⟩
@[simp ↓] theorem use_is_itm {c : Itm} : C_is_command [c.d] Q = Q (.v 2 (.bl c.ok)) := by simp [C_is_command]
@[simp ↓] theorem use_is_command {c : Cmd} : C_is_command [c.d] Q = Q (.v 2 (.bl c.ok)) := use_is_itm (c := .cmd c)
@[simp ↓] theorem use_is_span {s : Span} : C_is_span [spanD s] Q = Q (.v 2 (.bl s.ok)) := by simp only [C_is_span, List.cons.injEq, and_true, spanD_inj]; simp
@[simp ↓] theorem use_pieces {ps : List Pc} : C_Layout_pieces [layD ps] Q = Q (.own (pcsD ps)) := by
  apply propext
  constructor
  · rintro ⟨ps', e, q⟩
    simp [pcsD_inj] at e
    rw [e]; exact q
  · exact fun q => ⟨ps, rfl, q⟩
theorem use_normal {ps : List Pc} (h1 : closedF ps = true) (h2 : ps.length < 1000) : Q (.own (pcsD (norm ps))) → C_normal [.lst (pcsD ps)] Q := fun q => ⟨ps, false, rfl, h1, h2, q⟩
theorem use_cut {ps : List Pc} {k : Int} (tu : Bool) (h1 : Lay ps) (h2 : 0 ≤ k) (h3 : ps.length < 1000) : C_cut [seqOf tu (pcsD ps), .int k] Q = Q (.v 2 (.tup [.lst (pcsD (cutF ps k).1), .lst (pcsD (cutF ps k).2)])) := by
  apply propext
  constructor
  · rintro ⟨ps', tu', k', e, _, _, _, q⟩
    simp [seqOf_inj, pcsD_inj] at e
    obtain ⟨⟨_, rfl⟩, rfl⟩ := e
    exact q
  · exact fun q => ⟨ps, tu, k, rfl, h1, h2, h3, q⟩
theorem use_cutL {ps : List Pc} {k : Int} (h1 : Lay ps) (h2 : 0 ≤ k) (h3 : ps.length < 1000) : C_cut [.lst (pcsD ps), .int k] Q = Q (.v 2 (.tup [.lst (pcsD (cutF ps k).1), .lst (pcsD (cutF ps k).2)])) := use_cut false h1 h2 h3
theorem use_inserted {ps : List Pc} {i n : Int} (h1 : Whole ps) (h2 : 0 ≤ i) (h3 : 1 ≤ n) (h4 : ps.length < 990) : C_inserted [.lst (pcsD ps), .int i, .int n] Q = Q (.own (pcsD (insF ps i n))) := by
  apply propext
  constructor
  · rintro ⟨ps', i', n', e, _, _, _, _, q⟩
    simp [pcsD_inj] at e
    obtain ⟨rfl, rfl, rfl⟩ := e
    exact q
  · exact fun q => ⟨ps, i, n, rfl, h1, h2, h3, h4, q⟩
theorem use_deleted {ps : List Pc} {i n : Int} (h1 : Whole ps) (h2 : 0 ≤ i) (h3 : i ≤ n) (h4 : ps.length < 990) : C_deleted [.lst (pcsD ps), .int i, .int n] Q = Q (.own (pcsD (delF ps i n))) := by
  apply propext
  constructor
  · rintro ⟨ps', i', n', e, _, _, _, _, q⟩
    simp [pcsD_inj] at e
    obtain ⟨rfl, rfl, rfl⟩ := e
    exact q
  · exact fun q => ⟨ps, i, n, rfl, h1, h2, h3, h4, q⟩
theorem use_changed {ps : List Pc} {c : Cmd} (h1 : Whole ps) (h2 : c.ok = true) (h4 : ps.length < 990) : C_changed [.lst (pcsD ps), c.d] Q = Q (.own (pcsD (cmdF ps c))) := by
  apply propext
  constructor
  · rintro ⟨ps', c', e, _, _, _, q⟩
    simp [pcsD_inj] at e
    obtain ⟨rfl, rfl⟩ := e
    exact q
  · exact fun q => ⟨ps, c, rfl, h1, h2, h4, q⟩
theorem use_check_script {cs : List Cmd} (tu : Bool) (h : ∀ c ∈ cs, c.ok = true) : C_check_script [seqOf tu (cmdsD cs)] Q = Q (.v 2 .non) := by
  apply propext
  exact ⟨fun ⟨_, _, _, _, q⟩ => q, fun q => ⟨cs, tu, rfl, h, q⟩⟩
theorem use_run {cs : List Cmd} (tu : Bool) (st : Option (List Pc)) (h : ∀ c ∈ cs, c.ok = true) (h2 : ∀ ps, st = some ps → Whole ps ∧ nrm ps ∧ ps.length ≤ 60) (h3 : cs.length ≤ 420) (h4 : (runF (st.getD PLAIN) cs).length ≤ 60) (q : Q (.v 2 (layD (runF (st.getD PLAIN) cs)))) : C_run [seqOf tu (cmdsD cs), stD st] Q := ⟨cs, tu, st, rfl, h, h2, h3, h4, q⟩
theorem use_check_span {s : Span} (h : s.ok = true) : C_check_span [spanD s] Q = Q (.v 2 .non) := by
  apply propext
  exact ⟨fun ⟨_, _, _, q⟩ => q, fun q => ⟨s, rfl, h, q⟩⟩
theorem use_below {ps : List Pc} {a : Int} (tu : Bool) (h : Lay ps) : C_rows_below [seqOf tu (pcsD ps), .int a] Q = Q (.v 2 (.int (rbF ps a))) := by
  apply propext
  constructor
  · rintro ⟨ps', tu', a', e, _, q⟩
    simp [seqOf_inj, pcsD_inj] at e
    obtain ⟨⟨_, rfl⟩, rfl⟩ := e
    exact q
  · exact fun q => ⟨ps, tu, a, rfl, h, q⟩
theorem use_within {ps : List Pc} {a : Int} (tu : Bool) (h : Lay ps) : C_rows_within [seqOf tu (pcsD ps), .int a] Q = Q (.v 2 (.int (rwF ps a))) := by
  apply propext
  constructor
  · rintro ⟨ps', tu', a', e, _, q⟩
    simp [seqOf_inj, pcsD_inj] at e
    obtain ⟨⟨_, rfl⟩, rfl⟩ := e
    exact q
  · exact fun q => ⟨ps, tu, a, rfl, h, q⟩
theorem use_carried_in {ps : List Pc} {s : Span} (tu : Bool) (h : Lay ps) : C_carried_in [seqOf tu (pcsD ps), spanD s] Q = Q (.v 2 (ospD (carF ps s))) := by
  apply propext
  constructor
  · rintro ⟨ps', tu', a', e, _, q⟩
    simp [seqOf_inj, pcsD_inj, spanD_inj] at e
    obtain ⟨⟨_, rfl⟩, rfl⟩ := e
    exact q
  · exact fun q => ⟨ps, tu, s, rfl, h, q⟩
theorem use_carried {ps : List Pc} {s : Span} (h : Lay ps) (h2 : s.ok = true) : C_carried [layD ps, spanD s] Q = Q (.v 2 (ospD (carF ps s))) := by
  apply propext
  constructor
  · rintro ⟨ps', a', e, _, _, q⟩
    simp [pcsD_inj, spanD_inj] at e
    obtain ⟨rfl, rfl⟩ := e
    exact q
  · exact fun q => ⟨ps, s, rfl, h, h2, q⟩
end
end PR
/-! T2: the readings of cuts, scripts, spans (printed by mkt.py). -/
namespace PR
open PySem PySem.Spec PyProof.Rows L2 DL
abbrev N_parts_of : List Str := ["piece", "count", "whole", "first", "last", "word", "low", "high"]
abbrev P_parts_of : List Str := ["piece", "count"]
def t_parts_of : DTS := (dMatch (dVar 0) [⟨(.seq [(.val "top"), (.cap (some "whole"))]), [2], (dRet (dTup (aCons (dTup (aCons (dK (.str "top")) (aCons (dVar 1) aNil))) (aCons (dTup (aCons (dK (.str "top")) (aCons (dOp fSub (dVar 2) (dVar 1)) aNil))) aNil))))⟩, ⟨(.seq [(.val "old"), (.cap (some "first")), (.cap (some "last"))]), [3, 4], (dRet (dTup (aCons (dTup (aCons (dK (.str "old")) (aCons (dVar 3) (aCons (dOp fSub (dOp fAdd (dVar 3) (dVar 1)) (dK (.int 1))) aNil)))) (aCons (dTup (aCons (dK (.str "old")) (aCons (dOp fAdd (dVar 3) (dVar 1)) (aCons (dVar 4) aNil)))) aNil))))⟩, ⟨(.seq [(.cap (some "word")), (.cap (some "low")), (.cap (some "high")), (.cap (some "whole"))]), [5, 6, 7, 2], (dRet (dTup (aCons (dTup (aCons (dVar 5) (aCons (dVar 6) (aCons (dVar 7) (aCons (dVar 1) aNil))))) (aCons (dTup (aCons (dVar 5) (aCons (dVar 6) (aCons (dVar 7) (aCons (dOp fSub (dVar 2) (dVar 1)) aNil))))) aNil))))⟩])
abbrev N_cut : List Str := ["pieces", "at", "before", "after", "size", "head"]
abbrev P_cut : List Str := ["pieces", "at"]
def lb1_cut : DTS := (dSeq (dSet 4 (dCall C_size_of [] (aCons (dIxK 0 (dVar 3)) aNil))) (dIf (tvOr (tV (dIsN (dVar 4))) (tV (dOp fGt (dVar 4) (dVar 1)))) (dSeq (dAsg (dCall C_parts_of [] (aCons (dIxK 0 (dVar 3)) (aCons (dVar 1) aNil))) (gT 2 (gsCons (gN 5) (gsCons (gSub 3 (dK (.int 0))) gsNil)))) (dSeq (dApp 2 (dVar 5)) (dSet 1 (dK (.int 0))))) (dSeq (dAppPop 2 3) (dAug 1 iSub (dVar 4)))))
theorem lb1_cut_e (E : DEnds) (τ : DSt) : lb1_cut E τ = (dSeq (dSet 4 (dCall C_size_of [] (aCons (dIxK 0 (dVar 3)) aNil))) (dIf (tvOr (tV (dIsN (dVar 4))) (tV (dOp fGt (dVar 4) (dVar 1)))) (dSeq (dAsg (dCall C_parts_of [] (aCons (dIxK 0 (dVar 3)) (aCons (dVar 1) aNil))) (gT 2 (gsCons (gN 5) (gsCons (gSub 3 (dK (.int 0))) gsNil)))) (dSeq (dApp 2 (dVar 5)) (dSet 1 (dK (.int 0))))) (dSeq (dAppPop 2 3) (dAug 1 iSub (dVar 4))))) E τ := rfl
def t_cut : DTS := (dSeq (dPar 2 3 true true (dLst aNil) (dCB fList (aCons (dVar 0) aNil))) (dSeq (dWhile (tV (dOp fGt (dVar 1) (dK (.int 0)))) lb1_cut) (dFrz 2 (dFrz 3 (dRet (dTup (aCons (dVar 2) (aCons (dVar 3) aNil))))))))
abbrev N_inserted : List Str := ["pieces", "at", "count", "before", "after", "above"]
abbrev P_inserted : List Str := ["pieces", "at", "count"]
def t_inserted : DTS := (dSeq (dAsg (dCall C_cut [] (aCons (dVar 0) (aCons (dVar 1) aNil))) (gT 2 (gsCons (gN 3) (gsCons (gN 4) gsNil)))) (dSeq (dSet 5 (dIfE (tV (dOp fNe (dVar 3) (dLst aNil))) (dCall C_last_label [] (aCons (dIxL (dVar 3)) aNil)) (dK .non))) (dSeq (dIf (tV (dIsN (dVar 5))) (dRet (dCall C_normal [] (aCons (dLst (aStar (dVar 3) (aCons (dTup (aCons (dK (.str "top")) (aCons (dVar 2) aNil))) (aStar (dVar 4) aNil)))) aNil))) dNext) (dRet (dCall C_normal [] (aCons (dLst (aStar (dVar 3) (aCons (dTup (aCons (dK (.str "new")) (aCons (dIxK 0 (dVar 5)) (aCons (dIxK 1 (dCall C_first_label [] (aCons (dIxK 0 (dVar 4)) aNil))) (aCons (dVar 2) aNil))))) (aStar (dVar 4) aNil)))) aNil))))))
abbrev N_deleted : List Str := ["pieces", "first", "last"]
abbrev P_deleted : List Str := ["pieces", "first", "last"]
def t_deleted : DTS := (dRet (dCall C_normal [] (aCons (dOp fAdd (dIxK 0 (dCall C_cut [] (aCons (dVar 0) (aCons (dVar 1) aNil)))) (dIxK 1 (dCall C_cut [] (aCons (dVar 0) (aCons (dOp fAdd (dVar 2) (dK (.int 1))) aNil))))) aNil)))
abbrev N_changed : List Str := ["pieces", "command", "word", "one", "other"]
abbrev P_changed : List Str := ["pieces", "command"]
def t_changed : DTS := (dSeq (dAsg (dVar 1) (gT 3 (gsCons (gN 2) (gsCons (gN 3) (gsCons (gN 4) gsNil))))) (dRet (dIfE (tV (dOp fEq (dVar 2) (dK (.str "insert")))) (dCall C_inserted [] (aCons (dVar 0) (aCons (dVar 3) (aCons (dVar 4) aNil)))) (dCall C_deleted [] (aCons (dVar 0) (aCons (dVar 3) (aCons (dVar 4) aNil)))))))
abbrev N_is_command : List Str := ["command", "at", "count", "first", "last"]
abbrev P_is_command : List Str := ["command"]
def t_is_command : DTS := (dSeq (dMatch (dVar 0) [⟨(.seq [(.val "insert"), (.cap (some "at")), (.cap (some "count"))]), [1, 2], (dRet (vAnd (dOp fGe (dVar 1) (dK (.int 0))) (dOp fGe (dVar 2) (dK (.int 1)))))⟩, ⟨(.seq [(.val "delete"), (.cap (some "first")), (.cap (some "last"))]), [3, 4], (dRet (dChain pLe pLe (dK (.int 0)) (dVar 3) (dVar 4)))⟩]) (dRet (dK (.bl false))))
abbrev N_check_script : List Str := ["script", "at", "command"]
abbrev P_check_script : List Str := ["script"]
def lb1_check_script : DTS := (dIf (tvNot (tV (dCall C_is_command [] (aCons (dVar 2) aNil)))) dNever dNext)
theorem lb1_check_script_e (E : DEnds) (τ : DSt) : lb1_check_script E τ = (dIf (tvNot (tV (dCall C_is_command [] (aCons (dVar 2) aNil)))) dNever dNext) E τ := rfl
def t_check_script : DTS := (dForE (aCons (dVar 0) aNil) (gT 2 (gsCons (gN 1) (gsCons (gN 2) gsNil))) lb1_check_script)
abbrev N_run : List Str := ["script", "start", "pieces", "command"]
abbrev P_run : List Str := ["script", "start"]
def lb1_run : DTS := (dSet 2 (dCall C_changed [] (aCons (dVar 2) (aCons (dVar 3) aNil))))
theorem lb1_run_e (E : DEnds) (τ : DSt) : lb1_run E τ = (dSet 2 (dCall C_changed [] (aCons (dVar 2) (aCons (dVar 3) aNil)))) E τ := rfl
def t_run : DTS := (dSeq (dDrop (dCall C_check_script [] (aCons (dVar 0) aNil))) (dSeq (dSet 2 (dIfE (tV (dIsN (dVar 1))) (dCB fList (aCons (dK (.tup [.tup [.str "old", .int 0, .non]])) aNil)) (dMeth 0 C_Layout_pieces [] (dVar 1) aNil))) (dSeq (dFor (dVar 0) (gN 3) lb1_run) (dRet (dMake 0 C_Layout___init__ [] (aCons (dVar 2) aNil))))))
abbrev N_is_span : List Str := ["span"]
abbrev P_is_span : List Str := ["span"]
def t_is_span : DTS := (dRet (vAnd (dOp fGe (dIxK 0 (dVar 0)) (dK (.int 0))) (vOr (dIsN (dIxK 1 (dVar 0))) (dOp fLe (dIxK 0 (dVar 0)) (dIxK 1 (dVar 0))))))
abbrev N_check_span : List Str := ["span"]
abbrev P_check_span : List Str := ["span"]
def t_check_span : DTS := (dIf (tvNot (tV (dCall C_is_span [] (aCons (dVar 0) aNil)))) dNever dNext)
abbrev N_rows_below : List Str := ["pieces", "old", "total", "piece", "size", "ahead"]
abbrev P_rows_below : List Str := ["pieces", "old"]
def lb1_rows_below : DTS := (dSeq (dSet 4 (dCall C_size_of [] (aCons (dVar 3) aNil))) (dSeq (dIf (tV (dOp fNe (dIxK 0 (dVar 3)) (dK (.str "top")))) (dSeq (dSet 5 (dOp fSub (dVar 1) (dIxK 1 (dVar 3)))) (dSeq (dIf (tV (dOp fLe (dVar 5) (dK (.int 0)))) (dRet (dVar 2)) dNext) (dIf (tvAnd (tV (dOp fEq (dIxK 0 (dVar 3)) (dK (.str "old")))) (tvOr (tV (dIsN (dVar 4))) (tV (dOp fLt (dVar 5) (dVar 4))))) (dRet (dOp fAdd (dVar 2) (dVar 5))) dNext))) dNext) (dAug 2 iAdd (dVar 4))))
theorem lb1_rows_below_e (E : DEnds) (τ : DSt) : lb1_rows_below E τ = (dSeq (dSet 4 (dCall C_size_of [] (aCons (dVar 3) aNil))) (dSeq (dIf (tV (dOp fNe (dIxK 0 (dVar 3)) (dK (.str "top")))) (dSeq (dSet 5 (dOp fSub (dVar 1) (dIxK 1 (dVar 3)))) (dSeq (dIf (tV (dOp fLe (dVar 5) (dK (.int 0)))) (dRet (dVar 2)) dNext) (dIf (tvAnd (tV (dOp fEq (dIxK 0 (dVar 3)) (dK (.str "old")))) (tvOr (tV (dIsN (dVar 4))) (tV (dOp fLt (dVar 5) (dVar 4))))) (dRet (dOp fAdd (dVar 2) (dVar 5))) dNext))) dNext) (dAug 2 iAdd (dVar 4)))) E τ := rfl
def t_rows_below : DTS := (dSeq (dSet 2 (dK (.int 0))) (dSeq (dFor (dVar 0) (gN 3) lb1_rows_below) (dRet (dVar 2))))
abbrev N_rows_within : List Str := ["pieces", "old", "total", "piece", "size", "ahead"]
abbrev P_rows_within : List Str := ["pieces", "old"]
def lb1_rows_within : DTS := (dSeq (dSet 4 (dCall C_size_of [] (aCons (dVar 3) aNil))) (dSeq (dIf (tV (dOp fNe (dIxK 0 (dVar 3)) (dK (.str "top")))) (dSeq (dSet 5 (dOp fAdd (dOp fSub (dVar 1) (dIxK 1 (dCall C_first_label [] (aCons (dVar 3) aNil)))) (dK (.int 1)))) (dSeq (dIf (tV (dOp fLe (dVar 5) (dK (.int 0)))) (dRet (dVar 2)) dNext) (dIf (tvAnd (tV (dOp fEq (dIxK 0 (dVar 3)) (dK (.str "old")))) (tvOr (tV (dIsN (dVar 4))) (tV (dOp fLt (dVar 5) (dVar 4))))) (dRet (dOp fAdd (dVar 2) (dVar 5))) dNext))) dNext) (dAug 2 iAdd (dVar 4))))
theorem lb1_rows_within_e (E : DEnds) (τ : DSt) : lb1_rows_within E τ = (dSeq (dSet 4 (dCall C_size_of [] (aCons (dVar 3) aNil))) (dSeq (dIf (tV (dOp fNe (dIxK 0 (dVar 3)) (dK (.str "top")))) (dSeq (dSet 5 (dOp fAdd (dOp fSub (dVar 1) (dIxK 1 (dCall C_first_label [] (aCons (dVar 3) aNil)))) (dK (.int 1)))) (dSeq (dIf (tV (dOp fLe (dVar 5) (dK (.int 0)))) (dRet (dVar 2)) dNext) (dIf (tvAnd (tV (dOp fEq (dIxK 0 (dVar 3)) (dK (.str "old")))) (tvOr (tV (dIsN (dVar 4))) (tV (dOp fLt (dVar 5) (dVar 4))))) (dRet (dOp fAdd (dVar 2) (dVar 5))) dNext))) dNext) (dAug 2 iAdd (dVar 4)))) E τ := rfl
def t_rows_within : DTS := (dSeq (dSet 2 (dK (.int 0))) (dSeq (dFor (dVar 0) (gN 3) lb1_rows_within) (dRet (dVar 2))))
abbrev N_carried_in : List Str := ["pieces", "span", "first", "last"]
abbrev P_carried_in : List Str := ["pieces", "span"]
def t_carried_in : DTS := (dSeq (dSet 2 (dCall C_rows_below [] (aCons (dVar 0) (aCons (dIxK 0 (dVar 1)) aNil)))) (dSeq (dIf (tV (dIsN (dIxK 1 (dVar 1)))) (dRet (dTup (aCons (dVar 2) (aCons (dK .non) aNil)))) dNext) (dSeq (dSet 3 (dOp fSub (dCall C_rows_within [] (aCons (dVar 0) (aCons (dIxK 1 (dVar 1)) aNil))) (dK (.int 1)))) (dRet (dIfE (tV (dOp fLt (dVar 3) (dVar 2))) (dK .non) (dTup (aCons (dVar 2) (aCons (dVar 3) aNil))))))))
abbrev N_carried : List Str := ["layout", "span"]
abbrev P_carried : List Str := ["layout", "span"]
def t_carried : DTS := (dSeq (dDrop (dCall C_check_span [] (aCons (dVar 1) aNil))) (dRet (dCall C_carried_in [] (aCons (dMeth 0 C_Layout_pieces [] (dVar 0) aNil) (aCons (dVar 1) aNil)))))
end PR
/-! P2: what the readings do: cuts, scripts, spans. -/
namespace PR
open PySem PySem.Spec PyProof.Rows L2 DL
theorem up_up (d : D) : up (up 1 d) d = 1 ∨ up (up 1 d) d = 2 := by
  cases h : d.imm <;> simp [h]
theorem ble_up (d : D) : Nat.ble 1 (up (up 1 d) d) = true := by
  rcases up_up d with h | h <;> rw [h] <;> rfl
@[simp] theorem seqOf_imm (tu : Bool) (ds : List D) : (seqOf tu ds).imm = (tu && immAll ds) := by cases tu <;> rfl
@[simp] theorem upl_min {g : Nat} {ds : List D} (h : immAll ds = true) : upl (min g 2) ds = 2 := by
  have : min g 2 ≤ 2 := Nat.min_le_right _ _
  match e : min g 2, this with
  | 0, _ => simp [h]
  | 1, _ => simp [h]
  | 2, _ => rfl
theorem isNon_oD (x : Option Int) : isNon (oD x) = x.isNone := by cases x <;> rfl
theorem pure_parts_of : Pure C_parts_of t_parts_of N_parts_of := by
  rintro ds QD ⟨p, k, rfl, q⟩
  cases p with
  | top n => simpa [t_parts_of, Pc.cut1, Pc.cut2, Pc.d] using q
  | old a b => cases b <;> simpa [t_parts_of, Pc.cut1, Pc.cut2, Pc.d] using q
  | new l h n => simpa [t_parts_of, Pc.cut1, Pc.cut2, Pc.d] using q
theorem pure_cut : Pure C_cut t_cut N_cut := by
  rintro ds QD ⟨ps, tu, k, rfl, hl, hk, hn, q⟩
  simp [t_cut]
  refine while_inv (fun m τ => ∃ (s0 s4 s5 : Sl) (b a : List Pc) (j : Int), τ = [s0, .v 2 (.int j), .own (pcsD b), .own (pcsD a), s4, s5] ∧ 0 ≤ j ∧ m = j.toNat ∧ Lay a ∧ (0 < j → b.length + a.length ≤ 1000) ∧ b ++ (cutF a j).1 = (cutF ps k).1 ∧ (cutF a j).2 = (cutF ps k).2) k.toNat ⟨_, _, _, [], ps, k, rfl, hk, rfl, hl, fun _ => by simp; omega, by simp, rfl⟩ ?_
  rintro m τ E' - - - hE - ⟨s0, s4, s5, b, a, j, rfl, hj, rfl, ha, hlen, e1, e2⟩
  have hE : ∀ (s0 s4 s5 : Sl) (b a : List Pc) (i : Int), i < j → 0 ≤ i → Lay a → (0 < i → b.length + a.length ≤ 1000) → b ++ (cutF a i).1 = (cutF ps k).1 → (cutF a i).2 = (cutF ps k).2 → E'.nx [s0, .v 2 (.int i), .own (pcsD b), .own (pcsD a), s4, s5] :=
    fun s0 s4 s5 b a i h1 h2 h3 h4 h5 h6 => hE i.toNat _ (by omega) ⟨s0, s4, s5, b, a, i, rfl, h2, rfl, h3, h4, h5, h6⟩
  cases a with
  | nil => exact absurd rfl ha.ne
  | cons p a =>
    by_cases h0 : 0 < j
    · have hlen := hlen h0
      have hla : a.length < 1000 := by simp at hlen; omega
      have hlb : b.length < 1000000 := by simp at hlen; omega
      have n0 : ¬ j ≤ 0 := by omega
      rcases ha.cases with ⟨c, rfl, rfl, hc⟩ | ⟨hv, ho, hl2⟩
      · have hs : (Pc.old c none).size = none := rfl
        simp [cutF, n0, hs] at e1 e2
        have := hE s0 (.v 2 .non) (.v 2 ((Pc.old c none).cut1 j).d) (b ++ [(Pc.old c none).cut1 j]) [(Pc.old c none).cut2 j] 0 h0 (by omega) (Lay.one (by omega)) (fun z => by omega) (by simpa [cutF] using e1) (by simpa [cutF] using e2)
        simpa [h0, lb1_cut_e, hs, hlb] using this
      · obtain ⟨s, hs⟩ := size_closed ho
        have h1 := size_pos hv hs
        by_cases hsk : s > j
        · simp [cutF, n0, hs, hsk] at e1 e2
          obtain ⟨d1, d2, d3, d4⟩ := cut2_ok (p := p) (k := j) h0 (fun s' z => by rw [hs] at z; cases z; exact hsk) hv
          have := hE s0 (.v 2 (.int s)) (.v 2 (p.cut1 j).d) (b ++ [p.cut1 j]) (p.cut2 j :: a) 0 h0 (by omega) (Lay.cons d1 (by rw [d2]; exact ho) hl2) (fun z => by omega) (by simpa [cutF] using e1) (by simpa [cutF] using e2)
          simpa [h0, lb1_cut_e, hs, hsk, hlb] using this
        · simp [cutF, n0, hs, hsk] at e1 e2
          have := hE s0 (.v 2 (.int s)) s5 (b ++ [p]) a (j - s) (by omega) (by omega) hl2 (fun _ => by simp at hlen ⊢; omega) (by simpa using e1) e2
          simpa [h0, lb1_cut_e, hs, hsk, hlb] using this
    · have : j = 0 := by omega
      subst this
      simp [cutF] at e1 e2
      simp
      rw [← e1, ← e2] at q
      simpa using q
theorem closed_app {b a : List Pc} (hb : allC b) (ha : Lay a) : closedF (b ++ a) = true := lay_closed (Lay.app hb ha)
theorem pure_inserted : Pure C_inserted t_inserted N_inserted := by
  rintro ds QD ⟨ps, i, n, rfl, h, hi, hn, hl, q⟩
  have ck := cut_ok ps i h.lay hi
  unfold insF at q
  simp [t_inserted, ↓use_cutL h.lay hi (show ps.length < 1000 by omega)]
  cases hcut : cutF ps i with
  | mk b a => ?_
  rw [hcut] at ck q
  simp only at ck q
  have la := ck.ln
  have hne := ck.la.ne
  cases a with
  | nil => exact absurd rfl hne
  | cons p a =>
    have hc : ∀ x : Pc, x.valid = true → x.isOpen = false → closedF (b ++ x :: p :: a) = true := fun x h1 h2 => closed_app ck.cl (Lay.cons h1 h2 ck.la)
    have hlen : ∀ x : Pc, (b ++ x :: p :: a).length < 1000 := fun x => by simp at la ⊢; omega
    have un : ∀ (R : Sl → Prop) (x : Pc), x.valid = true → x.isOpen = false → R (.own (pcsD (norm (b ++ x :: p :: a)))) → C_normal [.lst (pcsD b ++ x.d :: p.d :: pcsD a)] R := fun R x h1 h2 q => by
      have := use_normal (Q := R) (ps := b ++ x :: p :: a) (hc x h1 h2) (hlen x) q
      simpa using this
    rcases snoc_cases b with rfl | ⟨b, y, rfl⟩
    · simp at la q ⊢
      have e : (a.length + 1 + 1).ble 1000000 = true := Nat.ble_eq_true_of_le (by omega)
      simp only [e]
      exact un _ (.top n) (by simp [Pc.valid, hn]) rfl (by simpa using q)
    · obtain ⟨hb1, hb2⟩ := allC_app.mp ck.cl
      obtain ⟨y1, y2⟩ := hb2 y (by simp)
      have i0 : 0 < i := by
        rw [← ck.tt]
        obtain ⟨s, hs⟩ := size_closed y2
        have := size_pos y1 hs
        have := tot_nonneg hb1
        simp [tot_app, tot, hs]
        omega
      have sp := midL_spec h.good i0
      have mo := h.good.mono (i - 1) i (by omega) (by omega)
      have lp : lab ps i = p.first := by
        have := ck.bk 0 (Int.le_refl _)
        rw [show 0 + i = i by omega, lab_head ck.la] at this
        exact this.symm
      have ly : lab ps (i - 1) = y.last := by
        have := ck.fr (i - 1) (by omega) (by omega)
        rw [← this, ← ck.tt]
        exact lab_end ck.cl
      rw [lp, ly] at sp mo
      have eD : y.lastD = oL y.last := by
        cases y with
        | old c d => cases d with
          | none => cases y2
          | some d => rfl
        | _ => rfl
      have e : (b.length + (a.length + 1 + 1 + 1)).ble 1000000 = true := Nat.ble_eq_true_of_le (by simp at la; omega)
      simp [eD] at la q ⊢
      simp only [e]
      cases hy : y.last with
      | none =>
        rw [hy] at q
        have := un (fun sl => sto sl = true ∧ QD (out sl)) (.top n) (by simp [Pc.valid, hn]) rfl (by simpa using q)
        simpa [Pc.d_top] using this
      | some z =>
        cases hp : p.first with
        | none => rw [hy, hp] at mo; exact mo.elim
        | some w =>
          rw [hy, hp] at q sp
          have := sp.2.2.2 _ rfl
          have := un (fun sl => sto sl = true ∧ QD (out sl)) (.new z.1 w.2 n) (by simp [Pc.valid]; exact ⟨this, hn⟩) rfl (by simpa using q)
          simpa [labD, elems, Pc.d_new] using this
theorem pure_deleted : Pure C_deleted t_deleted N_deleted := by
  rintro ds QD ⟨ps, a, b, rfl, h, ha, hb, hl, q⟩
  have c1 := cut_ok ps a h.lay ha
  have c2 := cut_ok ps (b + 1) h.lay (by omega)
  have l1 := c1.ln
  have l2 := c2.ln
  have l3 := cut_mono ps a (b + 1) h.lay (by omega)
  unfold delF at q
  simp [t_deleted, ↓use_cutL h.lay ha (show ps.length < 1000 by omega), ↓use_cutL h.lay (show 0 ≤ b + 1 by omega) (show ps.length < 1000 by omega)]
  refine ⟨by omega, ?_⟩
  have := use_normal (Q := fun sl => sto sl = true ∧ QD (out sl)) (ps := (cutF ps a).1 ++ (cutF ps (b + 1)).2) (closed_app c1.cl c2.la) (by simp; omega) (by simpa using q)
  simpa using this
theorem pure_changed : Pure C_changed t_changed N_changed := by
  rintro ds QD ⟨ps, c, rfl, h, hc, hl, q⟩
  cases c with
  | ins i n =>
    simp [Cmd.ok] at hc
    have q : QD (.own (pcsD (insF ps i n))) := q
    simpa [t_changed, Cmd.d_ins, ↓use_inserted h hc.1 hc.2 hl] using q
  | del a b =>
    simp [Cmd.ok] at hc
    have q : QD (.own (pcsD (delF ps a b))) := q
    simpa [t_changed, Cmd.d_del, ↓use_deleted h hc.1 hc.2 hl] using q
theorem pure_is_command : Pure C_is_command t_is_command N_is_command := by
  rintro ds QD ⟨c, rfl, q⟩
  cases c with
  | cmd c => cases c with
    | ins i n => by_cases h : 0 ≤ i <;> simpa [t_is_command, Itm.d, Itm.ok, Cmd.d_ins, Cmd.ok, h] using q
    | del a b => by_cases h : 0 ≤ a <;> simpa [t_is_command, Itm.d, Itm.ok, Cmd.d_del, Cmd.ok, h] using q
  | odd o =>
    have q : QD (.v 2 (.bl false)) := q
    cases o <;> simp [t_is_command, Itm.d, Odd.d] <;> exact q
theorem enum_map {α : Type} (f : α → D) : ∀ (xs : List α) (i : Int) (k : Nat) (d : D), (enumL i (xs.map f))[k]? = some d → ∃ x, xs[k]? = some x ∧ d = .tup [.int (i + k), f x]
  | [], i, k, d, e => by simp at e
  | x :: xs, i, 0, d, e => by simp at e; exact ⟨x, rfl, by rw [← e]; simp⟩
  | x :: xs, i, k + 1, d, e => by
    simp at e
    obtain ⟨y, h1, h2⟩ := enum_map f xs (i + 1) k d e
    exact ⟨y, by simpa using h1, by rw [h2]; congr 3; omega⟩
theorem pure_check_script : Pure C_check_script t_check_script N_check_script := by
  rintro ds QD ⟨cs, tu, rfl, hc, q⟩
  have key : ∀ (g : Nat) (hg : g = 1 ∨ g = 2) (s0 : Sl), forRec g (gT 2 (gsCons (gN 1) (gsCons (gN 2) gsNil))) lb1_check_script { nx := fun _ => QD (.v 2 .non), rt := QD } (enumL 0 (cmdsD cs)) [s0, .un, .un] := fun g hg s0 => by
    refine for_inv (fun _ τ => ∃ s1 s2, τ = [s0, s1, s2]) ⟨_, _, rfl⟩ (fun k d τ E' e _ _ _ hE _ h => ?_) fun τ _ => q
    obtain ⟨c, e1, rfl⟩ := enum_map Cmd.d cs _ _ _ e
    obtain ⟨s1, s2, rfl⟩ := h
    have hok := hc c (List.mem_of_getElem? e1)
    have := hE _ ⟨.v 2 (.int (0 + k)), .v 2 c.d, rfl⟩
    rcases hg with rfl | rfl <;> simpa [lb1_check_script_e, hok] using this
  cases tu
  · simpa [t_check_script, seqOf] using key _ (by simp) _
  · simpa [t_check_script, seqOf] using key _ (by simp) _
theorem pure_is_span : Pure C_is_span t_is_span N_is_span := by
  rintro ds QD ⟨⟨a, b⟩, rfl, q⟩
  cases b <;> by_cases h : 0 ≤ a <;> simpa [t_is_span, spanD, Span.ok, h] using q
theorem pure_check_span : Pure C_check_span t_check_span N_check_span := by
  rintro ds QD ⟨s, rfl, h, q⟩
  simpa [t_check_span, h] using q
theorem runF_take {ps : List Pc} {cs pre post : List Cmd} {c : Cmd} (e : cs = pre ++ c :: post) : runF ps (pre ++ [c]) = cmdF (runF ps pre) c := by simp [runF]
theorem pure_run : Pure C_run t_run N_run := by
  rintro ds QD ⟨cs, tu, st, rfl, hc, hst, hlen, hfin, q⟩
  have hw : Whole (st.getD PLAIN) ∧ nrm (st.getD PLAIN) ∧ (st.getD PLAIN).length ≤ 60 := by
    cases st with
    | none => exact ⟨plain_whole, trivial, by decide⟩
    | some ps => exact hst ps rfl
  obtain ⟨w1, w2, w3⟩ := hw
  have key : ∀ (g : Nat) (hg : g = 1 ∨ g = 2) (s0 s1 : Sl), forRec g (gN 3) lb1_run { nx := dRet (dMake 0 C_Layout___init__ [] (aCons (dVar 2) aNil)) { nx := fun _ => QD (.v 2 .non), rt := QD }, rt := QD } (cmdsD cs) [s0, s1, .v 2 (.lst (pcsD (st.getD PLAIN))), .un] := fun g hg s0 s1 => by
    refine for_map Cmd.d (fun pre τ => ∃ s3, τ = [s0, s1, .v 2 (.lst (pcsD (runF (st.getD PLAIN) pre))), s3]) ⟨_, rfl⟩ (fun pre c post τ E' e _ _ _ hE _ h => ?_) fun τ h => ?_
    · obtain ⟨s3, rfl⟩ := h
      have hc1 : ∀ x ∈ pre, x.ok = true := fun x hx => hc x (by rw [e]; simp [hx])
      have hl : pre.length ≤ 420 := by rw [e] at hlen; simp at hlen; omega
      obtain ⟨r1, r2, r3, r4⟩ := runF_ok pre _ w1 w2 hc1
      have hok := hc c (by rw [e]; simp)
      have := hE _ ⟨.v 2 c.d, rfl⟩
      rw [runF_take e] at this
      simpa [lb1_run_e, up_g hg, ↓use_changed r1 hok (show (runF (st.getD PLAIN) pre).length < 990 by omega)] using this
    · obtain ⟨s3, rfl⟩ := h
      obtain ⟨r1, r2, r3, r4⟩ := runF_ok cs _ w1 w2 hc
      have hn := nrm_norm r1.lay r2
      simp
      exact ⟨_, false, rfl, r1.ok, by omega, by rw [hn]; exact hfin, by simpa [hn] using q⟩
  simp [t_run, ↓use_check_script tu hc]
  cases st with
  | none =>
    simp [stD]
    cases tu
    · simp [seqOf]; exact key 1 (.inl rfl) _ _
    · simp [seqOf]; exact key 2 (.inr rfl) _ _
  | some ps =>
    simp [stD]
    cases tu
    · simp [seqOf]; exact key 1 (.inl rfl) _ _
    · simp [seqOf]; exact key 2 (.inr rfl) _ _
end PR
/-! P2b: counted rows, carried spans. -/
namespace PR
open PySem PySem.Spec PyProof.Rows L2 DL
theorem lay_split {pre post : List Pc} {p : Pc} (h : Lay (pre ++ p :: post)) : (post = [] ∧ ∃ a, p = .old a none) ∨ (p.isOpen = false ∧ p.valid = true ∧ post ≠ []) := by
  induction pre with
  | nil =>
    rcases h.cases with ⟨a, rfl, rfl, _⟩ | ⟨hv, ho, hl⟩
    · exact .inl ⟨rfl, a, rfl⟩
    · exact .inr ⟨ho, hv, hl.ne⟩
  | cons q pre ih =>
    rcases h.cases with ⟨a, _, e, _⟩ | ⟨_, _, hl⟩
    · simp at e
    · exact ih hl
theorem pure_rows_below : Pure C_rows_below t_rows_below N_rows_below := by
  rintro ds QD ⟨ps, tu, a, rfl, hl, q⟩
  have key : ∀ (g : Nat) (hg : g = 1 ∨ g = 2) (s0 : Sl) (E : DEnds), E.rt = QD → forRec g (gN 3) lb1_rows_below E (pcsD ps) [s0, .v 2 (.int a), .v 2 (.int 0), .un, .un, .un] := fun g hg s0 E hE => by
    refine for_map Pc.d (fun pre τ => ∃ (t : Int) (s3 s4 s5 : Sl) (post : List Pc), τ = [s0, .v 2 (.int a), .v 2 (.int t), s3, s4, s5] ∧ ps = pre ++ post ∧ post ≠ [] ∧ t + cntF false post a = rbF ps a) ⟨0, _, _, _, ps, rfl, rfl, hl.ne, by simp [rbF]⟩ (fun pre p post τ E' e hrt _ _ hN _ h => ?_) fun τ h => ?_
    · obtain ⟨t, s3, s4, s5, post', rfl, e2, _, e3⟩ := h
      have : post' = p :: post := List.append_cancel_left (e2.symm.trans e)
      subst this
      have hM : post ≠ [] → ∀ (t : Int) (s3 s4 s5 : Sl), t + cntF false post a = rbF ps a → E'.nx [s0, .v 2 (.int a), .v 2 (.int t), s3, s4, s5] := fun hne t s3 s4 s5 h => hN _ ⟨t, s3, s4, s5, post, rfl, by rw [e]; simp, hne, h⟩
      have hR : ∀ d, E'.rt (.v 2 d) = QD (.v 2 d) := fun d => by rw [hrt, hE]
      simp [lb1_rows_below_e, up_g hg]
      rcases lay_split (e ▸ hl) with ⟨rfl, c, rfl⟩ | ⟨ho, hv, hne⟩
      · simp [cntF, Pc.first, Pc.size, sel] at e3
        by_cases c0 : a - c ≤ 0
        · rw [if_pos c0] at e3
          simp at e3
          rw [← e3] at q
          simp [Pc.size, Pc.first, labD, Pc.d_old, hR]
          rw [if_pos (by omega)]
          exact q
        · rw [if_neg c0] at e3
          rw [← e3] at q
          simp [Pc.size, Pc.first, labD, Pc.d_old, hR]
          rw [if_neg (by omega)]
          simpa [show a - c = a - c by omega] using q
      · have hK := hM hne
        cases p with
        | top n =>
          simp [cntF, Pc.first, Pc.size] at e3
          have := hK (t + n) (.v 2 (Pc.top n).d) (.v 2 (.int n)) s5 (by omega)
          simpa [Pc.size, Pc.d_top, iAdd] using this
        | new l h n =>
          simp [cntF, Pc.first, Pc.size, sel] at e3
          simp [Pc.size, Pc.first, labD, Pc.d_new, hR]
          by_cases c0 : a - l ≤ 0
          · rw [if_pos c0] at e3
            simp at e3
            rw [← e3] at q
            rw [if_pos (by omega)]
            exact q
          · rw [if_neg c0] at e3
            rw [if_neg (by omega)]
            exact hK _ _ _ _ (by show t + n + _ = _; omega)
        | old c d =>
          cases d with
          | none => cases ho
          | some d =>
            simp [cntF, Pc.first, Pc.size, sel] at e3
            simp [Pc.size, Pc.first, labD, Pc.d_old, hR]
            by_cases c0 : a - c ≤ 0
            · rw [if_pos c0] at e3
              simp at e3
              rw [← e3] at q
              rw [if_pos (by omega)]
              exact q
            · rw [if_neg c0] at e3
              rw [if_neg (by omega)]
              by_cases c1 : a - c < d - c + 1
              · rw [if_pos c1] at e3
                rw [← e3] at q
                rw [if_pos (by omega)]
                simpa [show a - c = a - c by omega] using q
              · rw [if_neg c1] at e3
                rw [if_neg (by omega)]
                exact hK _ _ _ _ (by show t + (d - c + 1) + _ = _; omega)
    · obtain ⟨_, _, _, _, post, _, e2, e3, _⟩ := h
      exact absurd (List.append_right_eq_self.mp e2.symm) e3
  simp [t_rows_below]
  cases tu
  · simp [seqOf]; exact key 1 (.inl rfl) _ _ rfl
  · simp [seqOf]; exact key 2 (.inr rfl) _ _ rfl
theorem pure_rows_within : Pure C_rows_within t_rows_within N_rows_within := by
  rintro ds QD ⟨ps, tu, a, rfl, hl, q⟩
  have key : ∀ (g : Nat) (hg : g = 1 ∨ g = 2) (s0 : Sl) (E : DEnds), E.rt = QD → forRec g (gN 3) lb1_rows_within E (pcsD ps) [s0, .v 2 (.int a), .v 2 (.int 0), .un, .un, .un] := fun g hg s0 E hE => by
    refine for_map Pc.d (fun pre τ => ∃ (t : Int) (s3 s4 s5 : Sl) (post : List Pc), τ = [s0, .v 2 (.int a), .v 2 (.int t), s3, s4, s5] ∧ ps = pre ++ post ∧ post ≠ [] ∧ t + cntF true post (a + 1) = rwF ps a) ⟨0, _, _, _, ps, rfl, rfl, hl.ne, by simp [rwF]⟩ (fun pre p post τ E' e hrt _ _ hN _ h => ?_) fun τ h => ?_
    · obtain ⟨t, s3, s4, s5, post', rfl, e2, _, e3⟩ := h
      have : post' = p :: post := List.append_cancel_left (e2.symm.trans e)
      subst this
      have hM : post ≠ [] → ∀ (t : Int) (s3 s4 s5 : Sl), t + cntF true post (a + 1) = rwF ps a → E'.nx [s0, .v 2 (.int a), .v 2 (.int t), s3, s4, s5] := fun hne t s3 s4 s5 h => hN _ ⟨t, s3, s4, s5, post, rfl, by rw [e]; simp, hne, h⟩
      have hR : ∀ d, E'.rt (.v 2 d) = QD (.v 2 d) := fun d => by rw [hrt, hE]
      simp [lb1_rows_within_e, up_g hg]
      rcases lay_split (e ▸ hl) with ⟨rfl, c, rfl⟩ | ⟨ho, hv, hne⟩
      · simp [cntF, Pc.first, Pc.size, sel] at e3
        by_cases c0 : (a + 1) - c ≤ 0
        · rw [if_pos c0] at e3
          simp at e3
          rw [← e3] at q
          simp [Pc.size, Pc.first, labD, Pc.d_old, hR]
          rw [if_pos (by omega)]
          exact q
        · rw [if_neg c0] at e3
          rw [← e3] at q
          simp [Pc.size, Pc.first, labD, Pc.d_old, hR]
          rw [if_neg (by omega)]
          simpa [show (a + 1) - c = a - c + 1 by omega] using q
      · have hK := hM hne
        cases p with
        | top n =>
          simp [cntF, Pc.first, Pc.size] at e3
          have := hK (t + n) (.v 2 (Pc.top n).d) (.v 2 (.int n)) s5 (by omega)
          simpa [Pc.size, Pc.d_top, iAdd] using this
        | new l h n =>
          simp [cntF, Pc.first, Pc.size, sel] at e3
          simp [Pc.size, Pc.first, labD, Pc.d_new, hR]
          by_cases c0 : (a + 1) - h ≤ 0
          · rw [if_pos c0] at e3
            simp at e3
            rw [← e3] at q
            rw [if_pos (by omega)]
            exact q
          · rw [if_neg c0] at e3
            rw [if_neg (by omega)]
            exact hK _ _ _ _ (by show t + n + _ = _; omega)
        | old c d =>
          cases d with
          | none => cases ho
          | some d =>
            simp [cntF, Pc.first, Pc.size, sel] at e3
            simp [Pc.size, Pc.first, labD, Pc.d_old, hR]
            by_cases c0 : (a + 1) - c ≤ 0
            · rw [if_pos c0] at e3
              simp at e3
              rw [← e3] at q
              rw [if_pos (by omega)]
              exact q
            · rw [if_neg c0] at e3
              rw [if_neg (by omega)]
              by_cases c1 : (a + 1) - c < d - c + 1
              · rw [if_pos c1] at e3
                rw [← e3] at q
                rw [if_pos (by omega)]
                simpa [show (a + 1) - c = a - c + 1 by omega] using q
              · rw [if_neg c1] at e3
                rw [if_neg (by omega)]
                exact hK _ _ _ _ (by show t + (d - c + 1) + _ = _; omega)
    · obtain ⟨_, _, _, _, post, _, e2, e3, _⟩ := h
      exact absurd (List.append_right_eq_self.mp e2.symm) e3
  simp [t_rows_within]
  cases tu
  · simp [seqOf]; exact key 1 (.inl rfl) _ _ rfl
  · simp [seqOf]; exact key 2 (.inr rfl) _ _ rfl
theorem pure_carried_in : Pure C_carried_in t_carried_in N_carried_in := by
  rintro ds QD ⟨ps, tu, ⟨a, b⟩, rfl, hl, q⟩
  simp [t_carried_in, spanD, ↓use_below tu hl]
  cases b with
  | none => simpa [carF, ospD, spanD] using q
  | some b =>
    simp [↓use_within tu hl]
    simp only [carF] at q
    by_cases h : rwF ps b - 1 < rbF ps a
    · rw [if_pos h] at q ⊢
      exact q
    · rw [if_neg h] at q ⊢
      exact q
theorem pure_carried : Pure C_carried t_carried N_carried := by
  rintro ds QD ⟨ps, s, rfl, hl, h, q⟩
  have := @use_carried_in (Q := fun sl => sto sl = true ∧ QD (out sl)) ps s false hl
  simp only [seqOf] at this
  simp [t_carried, ↓use_check_span h]
  rw [show D.lst (pcsD ps) = seqOf false (pcsD ps) from rfl, use_carried_in false hl]
  simpa using q
end PR
/-! Q8: the law's lists of rows behind commands, in plain Lean. -/
namespace PR
/-- a list holds what a function tells of its first numbers -/
def Held {β : Type} (rows : List β) (F : Int → β) : Prop := ∀ k : Nat, k < rows.length → rows[k]? = some (F k)
def putIn {β : Type} (rows : List β) (i n : Int) (m : β) : List β := rows.take i.toNat ++ List.replicate n.toNat m ++ rows.drop i.toNat
def cutOut {β : Type} (rows : List β) (a b : Int) : List β := rows.take a.toNat ++ rows.drop (b + 1).toNat
theorem putIn_len {β : Type} {rows : List β} {i n : Int} {m : β} (h : i ≤ rows.length) (hi : 0 ≤ i) (hn : 0 ≤ n) : ((putIn rows i n m).length : Int) = rows.length + n := by
  simp [putIn]
  omega
theorem cutOut_len {β : Type} {rows : List β} {a b : Int} (ha : 0 ≤ a) (hb : a ≤ b) (h : b < rows.length) : ((cutOut rows a b).length : Int) = rows.length - (b - a + 1) := by
  simp [cutOut]
  omega
theorem Held.put {β : Type} {rows : List β} {F : Int → β} (h : Held rows F) {i n : Int} {m : β} (hi : 0 ≤ i) (hl : i ≤ rows.length) (hn : 0 ≤ n) : Held (putIn rows i n m) fun r => if r < i then F r else if r < i + n then m else F (r - n) := by
  intro k hk
  show _ = some (if (k : Int) < i then F k else if (k : Int) < i + n then m else F (k - n))
  have hlen := putIn_len (m := m) hl hi hn
  unfold putIn
  rw [List.append_assoc]
  by_cases c1 : (k : Int) < i
  · rw [List.getElem?_append_left (by simp; omega), List.getElem?_take, if_pos (by omega), h k (by omega), if_pos c1]
  · rw [List.getElem?_append_right (by simp; omega), if_neg c1]
    by_cases c2 : (k : Int) < i + n
    · rw [List.getElem?_append_left (by simp; omega), if_pos c2, List.getElem?_replicate, if_pos (by simp; omega)]
    · rw [List.getElem?_append_right (by simp; omega), if_neg c2, List.getElem?_drop]
      have e : i.toNat + (k - (rows.take i.toNat).length - (List.replicate n.toNat m).length) = k - n.toNat := by simp; omega
      rw [e, h _ (by omega)]
      congr 2
      omega
theorem Held.cut {β : Type} {rows : List β} {F : Int → β} (h : Held rows F) {a b : Int} (ha : 0 ≤ a) (hb : a ≤ b) (hl : b < rows.length) : Held (cutOut rows a b) fun r => if r < a then F r else F (r + (b - a + 1)) := by
  intro k hk
  show _ = some (if (k : Int) < a then F k else F (k + (b - a + 1)))
  have hlen := cutOut_len (rows := rows) ha hb hl
  unfold cutOut
  by_cases c1 : (k : Int) < a
  · rw [List.getElem?_append_left (by simp; omega), List.getElem?_take, if_pos (by omega), h k (by omega), if_pos c1]
  · rw [List.getElem?_append_right (by simp; omega), if_neg c1, List.getElem?_drop]
    have e : (b + 1).toNat + (k - (rows.take a.toNat).length) = k + (b - a + 1).toNat := by simp; omega
    rw [e, h _ (by omega)]
    congr 2
    omega
/-- from row l - 1 on the rows are old ones, row l is v -/
def TailAt (f : Rf) (l : Nat) (v : Int) : Prop := 1 ≤ l ∧ ∀ i : Int, (l : Int) - 1 ≤ i → f i = some (v + (i - l), v + (i - l))
/-- a command near the first of l rows -/
def Cmd.near (l : Nat) : Cmd → Prop
  | .ins i n => 0 ≤ i ∧ 1 ≤ n ∧ i < l
  | .del a b => 0 ≤ a ∧ a ≤ b ∧ b + 1 < l
theorem Cmd.near_ok {l : Nat} {c : Cmd} (h : c.near l) : c.ok = true := by
  cases c with
  | ins i n => simp [Cmd.ok]; exact ⟨h.1, h.2.1⟩
  | del a b => simp [Cmd.ok]; exact ⟨h.1, h.2.1⟩
def Cmd.len (l : Nat) : Cmd → Nat
  | .ins _ n => l + n.toNat
  | .del a b => l - (b - a + 1).toNat
theorem TailAt.cmd {f : Rf} {l : Nat} {v : Int} (h : TailAt f l v) {c : Cmd} (hc : c.near l) : TailAt (cmdL f c) (c.len l) v := by
  obtain ⟨h0, h1⟩ := h
  cases c with
  | ins i n =>
    obtain ⟨c1, c2, c3⟩ := hc
    refine ⟨by simp [Cmd.len]; omega, fun r hr => ?_⟩
    simp [Cmd.len] at hr
    show insL f i n r = _
    unfold insL
    rw [if_neg (by omega), if_neg (by omega), h1 _ (by omega)]
    simp [Cmd.len]
    omega
  | del a b =>
    obtain ⟨c1, c2, c3⟩ := hc
    refine ⟨by simp [Cmd.len]; omega, fun r hr => ?_⟩
    simp [Cmd.len] at hr
    show delL f a b r = _
    unfold delL
    rw [if_neg (by omega), h1 _ (by omega)]
    simp [Cmd.len]
    omega
/-! ### truth row by row -/
def bothB (rows : List Bool) (i : Int) : Bool := decide (0 < i) && ((rows[(i - 1).toNat]?).getD false && (rows[i.toNat]?).getD false)
def stepB (rows : List Bool) : Cmd → List Bool
  | .ins i n => putIn rows i n (bothB rows i)
  | .del a b => cutOut rows a b
theorem inL_mid {f : Rf} (g : Good f) {a b i : Int} (hi : 0 < i) : inL a b (midL (f (i - 1)) (f i)) = (inL a b (f (i - 1)) && inL a b (f i)) := by
  have m := g.mono (i - 1) i (by omega) (by omega)
  cases h1 : f (i - 1) with
  | none => rfl
  | some x => cases h2 : f i with
    | none => rw [h1, h2] at m; exact m.elim
    | some y =>
      rw [h1, h2] at m
      have m1 := m.1
      have m2 := m.2.1
      by_cases c1 : a ≤ x.1 <;> by_cases c2 : x.2 ≤ b <;> by_cases c3 : a ≤ y.1 <;> by_cases c4 : y.2 ≤ b <;> simp [inL, midL, c1, c2, c3, c4] <;> omega
theorem stepB_ok {f : Rf} (g : Good f) {a b : Int} {rows : List Bool} {c : Cmd} (h : Held rows fun r => inL a b (f r)) (hc : c.near rows.length) : Held (stepB rows c) (fun r => inL a b (cmdL f c r)) ∧ (stepB rows c).length = c.len rows.length := by
  cases c with
  | ins i n =>
    obtain ⟨c1, c2, c3⟩ := hc
    have e : (fun r => inL a b (cmdL f (.ins i n) r)) = fun r => if r < i then inL a b (f r) else if r < i + n then bothB rows i else inL a b (f (r - n)) := by
      funext r
      show inL a b (insL f i n r) = _
      unfold insL
      by_cases e1 : r < i
      · rw [if_pos e1, if_pos e1]
      · rw [if_neg e1, if_neg e1]
        by_cases e2 : r < i + n
        · rw [if_pos e2, if_pos e2]
          unfold bothB
          by_cases e3 : i = 0
          · subst e3
            rfl
          · rw [if_neg e3, inL_mid g (by omega)]
            have p1 := h (i - 1).toNat (by omega)
            have p2 := h i.toNat (by omega)
            rw [p1, p2, show (((i - 1).toNat : Nat) : Int) = i - 1 by omega, show ((i.toNat : Nat) : Int) = i by omega]
            simp
            intro _ _
            omega
        · rw [if_neg e2, if_neg e2]
    rw [e]
    refine ⟨h.put c1 (by omega) (by omega), ?_⟩
    have := putIn_len (rows := rows) (i := i) (n := n) (m := bothB rows i) (by omega) c1 (by omega)
    show (putIn rows i n (bothB rows i)).length = rows.length + n.toNat
    omega
  | del a' b' =>
    obtain ⟨c1, c2, c3⟩ := hc
    have e : (fun r => inL a b (cmdL f (.del a' b') r)) = fun r => if r < a' then inL a b (f r) else inL a b (f (r + (b' - a' + 1))) := by
      funext r
      show inL a b (delL f a' b' r) = _
      unfold delL
      by_cases e1 : r < a'
      · rw [if_pos e1, if_pos e1]
      · rw [if_neg e1, if_neg e1]
    rw [e]
    refine ⟨h.cut c1 c2 (by omega), ?_⟩
    have := cutOut_len (rows := rows) c1 c2 (by omega)
    show (cutOut rows a' b').length = rows.length - (b' - a' + 1).toNat
    omega
/-! ### labels row by row -/
def midR (rows : List (Option Lab)) (i : Int) : Option Lab := if i = 0 then none else midL ((rows[(i - 1).toNat]?).getD none) ((rows[i.toNat]?).getD none)
def stepR (rows : List (Option Lab)) : Cmd → List (Option Lab)
  | .ins i n => putIn rows i n (midR rows i)
  | .del a b => cutOut rows a b
theorem stepR_ok {f : Rf} {rows : List (Option Lab)} {c : Cmd} (h : Held rows f) (hc : c.near rows.length) : Held (stepR rows c) (cmdL f c) ∧ (stepR rows c).length = c.len rows.length := by
  cases c with
  | ins i n =>
    obtain ⟨c1, c2, c3⟩ := hc
    have e : cmdL f (.ins i n) = fun r => if r < i then f r else if r < i + n then midR rows i else f (r - n) := by
      funext r
      show insL f i n r = _
      unfold insL midR
      by_cases e3 : i = 0
      · rw [if_pos e3, if_pos e3]
      · have p1 := h (i - 1).toNat (by omega)
        have p2 := h i.toNat (by omega)
        rw [if_neg e3, if_neg e3, p1, p2, show (((i - 1).toNat : Nat) : Int) = i - 1 by omega, show ((i.toNat : Nat) : Int) = i by omega]
        rfl
    rw [e]
    refine ⟨h.put c1 (by omega) (by omega), ?_⟩
    have := putIn_len (rows := rows) (i := i) (n := n) (m := midR rows i) (by omega) c1 (by omega)
    show (putIn rows i n (midR rows i)).length = rows.length + n.toNat
    omega
  | del a' b' =>
    obtain ⟨c1, c2, c3⟩ := hc
    have e : cmdL f (.del a' b') = fun r => if r < a' then f r else f (r + (b' - a' + 1)) := rfl
    rw [e]
    refine ⟨h.cut c1 c2 (by omega), ?_⟩
    have := cutOut_len (rows := rows) c1 c2 (by omega)
    show (cutOut rows a' b').length = rows.length - (b' - a' + 1).toNat
    omega
/-! ### whole scripts -/
/-- each command is near the first rows at its time -/
def nearAll : Nat → List Cmd → Prop
  | _, [] => True
  | l, c :: cs => c.near l ∧ nearAll (c.len l) cs
def lenAll (l : Nat) (cs : List Cmd) : Nat := cs.foldl (fun l c => c.len l) l
theorem nearAll_ok : ∀ (cs : List Cmd) (l : Nat), nearAll l cs → ∀ c ∈ cs, c.ok = true
  | [], _, _, _, h => by cases h
  | c :: cs, l, ⟨h1, h2⟩, x, hx => by
    rcases List.mem_cons.mp hx with rfl | hx
    · exact Cmd.near_ok h1
    · exact nearAll_ok cs _ h2 x hx
theorem nearAll_app : ∀ (cs ds : List Cmd) (l : Nat), nearAll l (cs ++ ds) ↔ nearAll l cs ∧ nearAll (lenAll l cs) ds
  | [], ds, l => by simp [nearAll, lenAll]
  | c :: cs, ds, l => by
    have := nearAll_app cs ds (c.len l)
    simp only [List.cons_append, nearAll, this, and_assoc]
    rfl
def plainf : Rf := fun r => some (r, r)
theorem plain_good : Good plainf := by
  refine ⟨fun i j _ h => ⟨by show i ≤ j; omega, by show i ≤ j; omega, fun _ _ => h⟩, fun i x h e => ?_, 0, 0, by decide, by decide, fun i _ => by simp [plainf]⟩
  cases e
  exact ⟨h, Int.le_refl _⟩
theorem lab_plain (r : Int) : lab [.old 0 none] r = plainf r := by simp [lab, Pc.size, Pc.at_, plainf]
theorem plain_tail (n : Nat) (h : 1 ≤ n) : TailAt plainf n n := ⟨h, fun i _ => by simp [plainf]; omega⟩
theorem walkB : ∀ (cs : List Cmd) (f : Rf) (rows : List Bool) (a b v : Int), Good f → Held rows (fun r => inL a b (f r)) → TailAt f rows.length v → nearAll rows.length cs →
    Good (cs.foldl cmdL f) ∧ Held (cs.foldl stepB rows) (fun r => inL a b ((cs.foldl cmdL f) r)) ∧ TailAt (cs.foldl cmdL f) (cs.foldl stepB rows).length v ∧ (cs.foldl stepB rows).length = lenAll rows.length cs
  | [], f, rows, a, b, v, g, h, t, _ => ⟨g, h, t, rfl⟩
  | c :: cs, f, rows, a, b, v, g, h, t, n => by
    obtain ⟨h1, h2⟩ := stepB_ok g h n.1
    have t2 := t.cmd n.1
    rw [← h2] at t2
    have n2 := n.2
    rw [← h2] at n2
    obtain ⟨k1, k2, k3, k4⟩ := walkB cs (cmdL f c) (stepB rows c) a b v (g.cmd (Cmd.near_ok n.1)) h1 t2 n2
    exact ⟨k1, k2, k3, by rw [List.foldl_cons, k4, h2]; rfl⟩
theorem walkR : ∀ (cs : List Cmd) (f : Rf) (rows : List (Option Lab)) (v : Int), Good f → Held rows f → TailAt f rows.length v → nearAll rows.length cs →
    Good (cs.foldl cmdL f) ∧ Held (cs.foldl stepR rows) (cs.foldl cmdL f) ∧ TailAt (cs.foldl cmdL f) (cs.foldl stepR rows).length v ∧ (cs.foldl stepR rows).length = lenAll rows.length cs
  | [], f, rows, v, g, h, t, _ => ⟨g, h, t, rfl⟩
  | c :: cs, f, rows, v, g, h, t, n => by
    obtain ⟨h1, h2⟩ := stepR_ok h n.1
    have t2 := t.cmd n.1
    rw [← h2] at t2
    have n2 := n.2
    rw [← h2] at n2
    obtain ⟨k1, k2, k3, k4⟩ := walkR cs (cmdL f c) (stepR rows c) v (g.cmd (Cmd.near_ok n.1)) h1 t2 n2
    exact ⟨k1, k2, k3, by rw [List.foldl_cons, k4, h2]; rfl⟩
/-! ### the span that is found -/
def insideL (rows : List Bool) : List Int := ((List.range rows.length).filter fun k => (rows[k]?).getD false).map fun (k : Nat) => (k : Int)
def spanOf (rows : List Bool) : Option Span := match (insideL rows).head?, (insideL rows).getLast? with
  | some x, some y => some (x, some y)
  | _, _ => none
theorem filter_range_int {p : Nat → Bool} {n lo hi : Nat} (h : ∀ k, k < n → (p k = true ↔ lo ≤ k ∧ k ≤ hi)) (hl : lo ≤ hi) (hh : hi < n) : (List.range n).filter p = List.range' lo (hi - lo + 1) := by
  have e : n = lo + ((hi - lo + 1) + (n - hi - 1)) := by omega
  have r1 : List.range n = List.range' 0 lo ++ (List.range' lo (hi - lo + 1) ++ List.range' (hi + 1) (n - hi - 1)) := by
    rw [List.range_eq_range']
    conv => lhs; rw [e]
    rw [← List.range'_append_1, ← List.range'_append_1]
    congr 3
    all_goals omega
  rw [r1, List.filter_append, List.filter_append]
  have f1 : (List.range' 0 lo).filter p = [] := by
    rw [List.filter_eq_nil_iff]
    intro k hk
    have := List.mem_range'_1.mp hk
    rw [h k (by omega)]
    omega
  have f2 : (List.range' lo (hi - lo + 1)).filter p = List.range' lo (hi - lo + 1) := by
    rw [List.filter_eq_self]
    intro k hk
    have := List.mem_range'_1.mp hk
    rw [h k (by omega)]
    omega
  have f3 : (List.range' (hi + 1) (n - hi - 1)).filter p = [] := by
    rw [List.filter_eq_nil_iff]
    intro k hk
    have := List.mem_range'_1.mp hk
    rw [h k (by omega)]
    omega
  rw [f1, f2, f3]
  simp
theorem spanOf_eq {rows : List Bool} {lo hi : Int} (h0 : 0 ≤ lo) (h : ∀ k : Nat, k < rows.length → ((rows[k]?).getD false = true ↔ lo ≤ k ∧ (k : Int) ≤ hi)) (hh : lo ≤ hi → hi < rows.length) : spanOf rows = if hi < lo then none else some (lo, some hi) := by
  by_cases c : hi < lo
  · rw [if_pos c]
    have : insideL rows = [] := by
      unfold insideL
      rw [List.map_eq_nil_iff, List.filter_eq_nil_iff]
      intro k hk
      have hk := List.mem_range.mp hk
      rw [h k hk]
      omega
    simp [spanOf, this]
  · rw [if_neg c]
    have hb := hh (by omega)
    have e := filter_range_int (p := fun k => (rows[k]?).getD false) (n := rows.length) (lo := lo.toNat) (hi := hi.toNat) (fun k hk => by rw [h k hk]; omega) (by omega) (by omega)
    have e2 : insideL rows = (List.range' lo.toNat (hi.toNat - lo.toNat + 1)).map fun (k : Nat) => (k : Int) := by
      unfold insideL
      rw [e]
    have hd : (insideL rows).head? = some lo := by
      rw [e2]
      simp [List.range'_succ]
      omega
    have tl : (insideL rows).getLast? = some hi := by
      rw [e2]
      simp [List.range'_concat]
      omega
    simp [spanOf, hd, tl]
/-- the law's span is the program's -/
theorem span_same {ps : List Pc} (h : Whole ps) {rows : List Bool} {a b : Int} (hr : Held rows fun r => inL a b (lab ps r)) (ho : ∀ i : Int, rows.length ≤ i → inL a b (lab ps i) = false) : spanOf rows = carF ps (a, some b) := by
  have key := fun (i : Int) (hi : 0 ≤ i) => car_mem h a b hi
  unfold carF
  simp only
  refine spanOf_eq (rb_nn h a) (fun k hk => ?_) (fun hl => ?_)
  · rw [hr k hk]
    exact key k (by omega)
  · have n0 := rb_nn h a
    rcases Int.lt_or_le (rwF ps b - 1) rows.length with z | z
    · exact z
    · have := ho _ z
      have k2 := (key (rwF ps b - 1) (by omega)).mpr ⟨hl, Int.le_refl _⟩
      rw [this] at k2
      cases k2
end PR
/-! Q9: the rows of a layout that is rolled from rows; spans over listed rows. -/
namespace PR
structure Rolled (found : List Pc) (rows : List (Option Lab)) : Prop where
  cl : allC found
  tt : tot found = rows.length
  at_ : Held rows (lab found)
theorem Rolled.add {found : List Pc} {rows : List (Option Lab)} {x : Option Lab} {p : Pc} (h : Rolled found rows) (hv : p.valid = true) (ho : p.isOpen = false) (hs : p.size = some 1) (h0 : p.at_ 0 = x) : Rolled (found ++ [p]) (rows ++ [x]) := by
  refine ⟨allC_app.mpr ⟨h.cl, fun q hq => by rw [List.mem_singleton.mp hq]; exact ⟨hv, ho⟩⟩, ?_, fun k hk => ?_⟩
  · rw [tot_app, h.tt]
    simp [tot, hs]
  · rw [lab_app h.cl (by omega), h.tt]
    by_cases e : k < rows.length
    · rw [if_pos (by omega), List.getElem?_append_left e]
      exact h.at_ k e
    · have e2 : k = rows.length := by simp at hk; omega
      subst e2
      rw [if_neg (by omega)]
      simp [lab, hs, h0]
theorem Rolled.grow {init : List Pc} {rows : List (Option Lab)} {x : Option Lab} {q p : Pc} {s : Int} (h : Rolled (init ++ [q]) rows) (hv : p.valid = true) (ho : p.isOpen = false) (hq : q.size = some s) (hs : p.size = some (s + 1)) (ha : ∀ r, r < s → p.at_ r = q.at_ r) (h0 : p.at_ s = x) : Rolled (init ++ [p]) (rows ++ [x]) := by
  obtain ⟨c1, c2⟩ := allC_app.mp h.cl
  have ht := h.tt
  rw [tot_app] at ht
  simp [tot, hq] at ht
  refine ⟨allC_app.mpr ⟨c1, fun z hz => by rw [List.mem_singleton.mp hz]; exact ⟨hv, ho⟩⟩, ?_, fun k hk => ?_⟩
  · rw [tot_app]
    simp [tot, hs]
    omega
  · rw [lab_app c1 (by omega)]
    by_cases e : k < rows.length
    · have := h.at_ k e
      rw [lab_app c1 (by omega)] at this
      rw [List.getElem?_append_left e, this]
      by_cases e2 : (k : Int) < tot init
      · rw [if_pos e2, if_pos e2]
      · rw [if_neg e2, if_neg e2]
        have l1 : (k : Int) - tot init < s := by omega
        have l2 : (k : Int) - tot init < s + 1 := by omega
        simp only [lab, hq, hs]
        rw [if_pos l1, if_pos l2, ha _ l1]
    · have e2 : k = rows.length := by simp at hk; omega
      subst e2
      rw [if_neg (by have := tot_nonneg c1; have := size_pos (c2 q (by simp)).1 hq; omega)]
      have l2 : (rows.length : Int) - tot init = s := by omega
      rw [l2]
      simp [lab, hs, h0]
      omega
theorem Rolled.step {found : List Pc} {rows : List (Option Lab)} {x : Option Lab} (h : Rolled found rows) (hx : ∀ l, x = some l → labOk l) : Rolled (rollF found x) (rows ++ [x]) := by
  rcases snoc_cases found with rfl | ⟨init, q, rfl⟩
  · cases x with
    | none => exact h.add (p := .top 1) rfl rfl rfl rfl
    | some x =>
      obtain ⟨l, r⟩ := x
      have hl := hx _ rfl
      by_cases e : l = r
      · subst e
        have := h.add (p := .old l (some l)) (x := some (l, l)) (by simp [Pc.valid]; exact hl.1) rfl (by simp [Pc.size]) (by simp [Pc.at_])
        simpa [rollF] using this
      · have := h.add (p := .new l r 1) (x := some (l, r)) (by simp [Pc.valid]; have := hl.2; have := hl.1; simp at *; omega) rfl rfl rfl
        simpa [rollF, e] using this
  · have ho : q.isOpen = false := (allC_app.mp h.cl).2 q (by simp) |>.2
    have hvq : q.valid = true := (allC_app.mp h.cl).2 q (by simp) |>.1
    cases x with
    | none =>
      cases q with
      | top n =>
        have := h.grow (p := .top (n + 1)) (x := none) (s := n) (by simp [Pc.valid] at *; omega) rfl rfl rfl (fun _ _ => rfl) rfl
        simpa [rollF] using this
      | old a b =>
        have := h.add (p := .top 1) (x := none) rfl rfl rfl rfl
        simpa [rollF] using this
      | new a b n =>
        have := h.add (p := .top 1) (x := none) rfl rfl rfl rfl
        simpa [rollF] using this
    | some x =>
      obtain ⟨l, r⟩ := x
      have hl := hx _ rfl
      by_cases e : l = r
      · subst e
        have hadd := h.add (p := .old l (some l)) (x := some (l, l)) (by simp [Pc.valid]; exact hl.1) rfl (by simp [Pc.size]) (by simp [Pc.at_])
        cases q with
        | top n => simpa [rollF] using hadd
        | new a b n => simpa [rollF] using hadd
        | old a b => cases b with
          | none => cases ho
          | some b =>
            by_cases e2 : b + 1 = l
            · have := h.grow (p := .old a (some l)) (x := some (l, l)) (s := b - a + 1) (by simp [Pc.valid] at *; omega) rfl rfl (by simp [Pc.size]; omega) (fun _ _ => rfl) (by simp [Pc.at_]; omega)
              simpa [rollF, e2] using this
            · simpa [rollF, e2] using hadd
      · have hadd := h.add (p := .new l r 1) (x := some (l, r)) (by simp [Pc.valid]; have := hl.2; have := hl.1; simp at *; omega) rfl rfl rfl
        cases q with
        | top n => simpa [rollF, e] using hadd
        | old a b => simpa [rollF, e] using hadd
        | new l' h' n =>
          by_cases e2 : l' = l ∧ h' = r
          · obtain ⟨rfl, rfl⟩ := e2
            have := h.grow (p := .new l' h' (n + 1)) (x := some (l', h')) (s := n) (by simp [Pc.valid] at *; omega) rfl rfl rfl (fun _ _ => rfl) rfl
            simpa [rollF, e] using this
          · simpa [rollF, e, e2] using hadd
theorem Rolled.fold : ∀ (xs : List (Option Lab)) (found : List Pc) (rows : List (Option Lab)), Rolled found rows → (∀ x ∈ xs, ∀ l, x = some l → labOk l) → Rolled (xs.foldl rollF found) (rows ++ xs)
  | [], found, rows, h, _ => by simpa using h
  | x :: xs, found, rows, h, hx => by
    have := Rolled.fold xs _ _ (h.step (hx x (by simp))) fun y hy => hx y (by simp [hy])
    simpa using this
/-- the rows of a rolled layout; behind them the old rows go on -/
theorem roll_rows {k : Nat} {rows : List (Option Lab)} (h : Rows k rows) : ∃ v : Int, (8 ≤ v ∧ v ≤ 6 * k + 18) ∧ rows.getLast? = some (some (v, v)) ∧ Held rows (lab (roll rows)) ∧ TailAt (lab (roll rows)) rows.length (v + 1) := by
  obtain ⟨_, _, _, _, _, ⟨v, hv⟩, _⟩ := rows_good h
  obtain ⟨t, ls, v', hr, ht, hl, hp, ho, hb⟩ := h.ex
  have hv8 : v = v' + 8 := by
    rw [hr] at hv
    simp [rangeI, List.getLast?_append] at hv
    omega
  have hv0 : 0 ≤ v' := (ho (v', v') (by simp)).1
  have hok : ∀ x ∈ rows, ∀ l, x = some l → labOk l := by
    intro x hx l e
    subst e
    rw [hr] at hx
    simp at hx
    rcases hx with hx | ⟨i, hi, rfl⟩
    · exact ho l (by simp [hx])
    · have h9 := (rangeI_mem _ _ _).mp hi
      have := (ho (v', v') (by simp)).1
      constructor
      · show (0 : Int) ≤ i
        simp at this
        omega
      · exact Int.le_refl _
  have R := Rolled.fold rows [] [] ⟨by simp [allC], rfl, fun k hk => by simp at hk⟩ hok
  rw [List.nil_append] at R
  obtain ⟨init, a, b, e, _⟩ := fold_last rows [] v hv
  rw [e] at R
  obtain ⟨c1, c2⟩ := allC_app.mp R.cl
  have tt := R.tt
  rw [tot_app] at tt
  simp [tot, Pc.size] at tt
  have er : roll rows = init ++ [.old a none] := by simp [roll, rollE, e]
  have hvo : labOk (v, v) := hok _ (List.mem_of_getLast? hv) _ rfl
  have tn := tot_nonneg c1
  have hvb : (Pc.old a (some b)).valid = true := (c2 _ (by simp)).1
  simp [Pc.valid] at hvb
  have hne : 1 ≤ rows.length := by omega
  have last := R.at_ (rows.length - 1) (by omega)
  rw [← List.getLast?_eq_getElem?, hv, lab_app c1 (by omega), if_neg (by omega)] at last
  simp [lab, Pc.size, Pc.at_] at last
  have hvb2 : v = b := by omega
  refine ⟨v, ⟨by omega, by omega⟩, hv, fun k hk => ?_, hne, fun i hi => ?_⟩
  · rw [R.at_ k hk, er, lab_app c1 (by omega), lab_app c1 (by omega)]
    by_cases e2 : (k : Int) < tot init
    · rw [if_pos e2, if_pos e2]
    · rw [if_neg e2, if_neg e2]
      have e3 : (k : Int) - tot init < b - a + 1 := by omega
      simp [lab, Pc.size, Pc.at_, e3]
  · rw [er, lab_app c1 (by omega), if_neg (by omega)]
    simp [lab, Pc.size, Pc.at_]
    omega
end PR
/-! M3: spans that may be none; the tail of a layout: promises. -/
namespace PR
open PySem PySem.Spec PyProof.Rows L2 DL
abbrev eBadSpan : Er := mkEr "BadSpan" [] []
def X_check_span : CtrX := fun ds Q R => ∃ s : Span, ds = [spanD s] ∧ (s.ok = true → Q (.v 2 .non)) ∧ (s.ok = false → R eBadSpan)
def X_carried : CtrX := fun ds Q R => ∃ (ps : List Pc) (s : Span), ds = [layD ps, spanD s] ∧ Lay ps ∧ (s.ok = true → Q (.v 2 (ospD (carF ps s)))) ∧ (s.ok = false → R eBadSpan)
theorem calm_carried : ∀ ds Q, C_carried ds Q → X_carried ds Q fun _ => False := fun ds Q ⟨ps, s, e, hl, hs, q⟩ => ⟨ps, s, e, hl, fun _ => q, fun z => by rw [hs] at z; cases z⟩
theorem calm_check_span : ∀ ds Q, C_check_span ds Q → X_check_span ds Q fun _ => False := fun ds Q ⟨s, e, hs, q⟩ => ⟨s, e, fun _ => q, fun z => by rw [hs] at z; cases z⟩
theorem ok_badspan : okEr eBadSpan := okEr_0
/-- the first old row of the last piece -/
def tailF (ps : List Pc) : Int := match ps.getLast? with
  | some (.old a _) => a
  | _ => 0
def shiftF (ps : List Pc) : Int := tot ps.dropLast - tailF ps
@[simp] theorem tailF_app (pre : List Pc) (a : Int) : tailF (pre ++ [.old a none]) = a := by simp [tailF]
@[simp] theorem shiftF_app (pre : List Pc) (a : Int) : shiftF (pre ++ [.old a none]) = tot pre - a := by simp [shiftF]
def C_Layout_tail : Ctr := fun ds Q => ∃ ps : List Pc, ds = [layD ps] ∧ Lay ps ∧ Q (.v 2 (.int (tailF ps)))
def C_Layout_shift : Ctr := fun ds Q => ∃ ps : List Pc, ds = [layD ps] ∧ Lay ps ∧ ps.length < 1000 ∧ Q (.v 2 (.int (shiftF ps)))
/-- behind the tail -/
theorem tail_lab {ps : List Pc} (h : Lay ps) {v : Int} (hv : tailF ps ≤ v) : lab ps (v + shiftF ps) = some (v, v) ∧ 0 ≤ v + shiftF ps := by
  obtain ⟨pre, a, rfl, hc, ha⟩ := h
  rw [tailF_app] at hv
  rw [shiftF_app]
  have := tot_nonneg hc
  refine ⟨?_, by omega⟩
  rw [lab_app hc (by omega), if_neg (by omega)]
  simp [lab, Pc.size, Pc.at_]
  omega
end PR
namespace PR
open PySem PySem.Spec PyProof.Rows L2 DL
def tx_check_span : DTS := (dIf (tvNot (tV (dCall C_is_span [] (aCons (dVar 0) aNil)))) (dRaise "BadSpan" [] aNil) dNext)
def tx_carried : DTS := (dSeq (dDropX (dCallX X_check_span [] (aCons (dVar 1) aNil))) (dRet (dCall C_carried_in [] (aCons (dMeth 0 C_Layout_pieces [] (dVar 0) aNil) (aCons (dVar 1) aNil)))))
abbrev N_Layout_tail : List Str := ["self"]
abbrev P_Layout_tail : List Str := ["self"]
def t_Layout_tail : DTS := (dRet (dIxK 1 (dIxL (dFld 0 0 (dVar 0)))))
abbrev N_Layout_shift : List Str := ["self", "piece"]
abbrev P_Layout_shift : List Str := ["self"]
def le1_Layout_shift : DTE := (dCall C_size_of [] (aCons (dVar 1) aNil))
theorem le1_Layout_shift_e (τ : DSt) (Q : Sl → Prop) : le1_Layout_shift τ Q = (dCall C_size_of [] (aCons (dVar 1) aNil)) τ Q := rfl
def t_Layout_shift : DTS := (dRet (dOp fSub (dCB fSum (aCons (dLc (dSl (dFld 0 0 (dVar 0)) oNone (oSome (dNeg (dK (.int 1))))) (gN 1) tYesD le1_Layout_shift [1]) aNil)) (dIxK 1 (dIxL (dFld 0 0 (dVar 0))))))
end PR
/-! Q10: rolled rows in general: listed rows that stand in order. -/
namespace PR
/-- listed rows: top rows, then labels in order; the last one is an old row v -/
structure GRows (rows : List (Option Lab)) (v : Int) : Prop where
  pw : rows.Pairwise ole
  ok : ∀ x ∈ rows, ∀ l, x = some l → labOk l
  lst : rows.getLast? = some (some (v, v))
theorem nrm_add {found : List Pc} {p : Pc} (h : nrm found) (hw : ∀ q, found.getLast? = some q → weld q p = none) : nrm (found ++ [p]) := by
  rcases snoc_cases found with rfl | ⟨init, q, rfl⟩
  · trivial
  · exact nrm_snoc.mpr ⟨h, hw q (by simp)⟩
theorem rollF_nrm {found : List Pc} {x : Option Lab} (hc : allC found) (h : nrm found) (hx : ∀ l, x = some l → labOk l) : nrm (rollF found x) := by
  rcases snoc_cases found with rfl | ⟨init, q, rfl⟩
  · cases x with
    | none => trivial
    | some x =>
      obtain ⟨l, r⟩ := x
      by_cases e : l = r <;> simp [rollF, e, nrm]
  · have ho : q.isOpen = false := (allC_app.mp hc).2 q (by simp) |>.2
    cases x with
    | none =>
      cases q with
      | top n => simpa [rollF] using nrm_last (b := .top (n + 1)) (by trivial) h
      | old a b =>
        have : nrm (init ++ [.old a b] ++ [.top 1]) := nrm_snoc.mpr ⟨h, by cases b <;> rfl⟩
        simpa [rollF] using this
      | new a b n =>
        have : nrm (init ++ [.new a b n] ++ [.top 1]) := nrm_snoc.mpr ⟨h, rfl⟩
        simpa [rollF] using this
    | some x =>
      obtain ⟨l, r⟩ := x
      by_cases e : l = r
      · subst e
        cases q with
        | top n =>
          have : nrm (init ++ [.top n] ++ [.old l (some l)]) := nrm_snoc.mpr ⟨h, rfl⟩
          simpa [rollF] using this
        | new a b n =>
          have : nrm (init ++ [.new a b n] ++ [.old l (some l)]) := nrm_snoc.mpr ⟨h, rfl⟩
          simpa [rollF] using this
        | old a b => cases b with
          | none => cases ho
          | some b =>
            by_cases e2 : b + 1 = l
            · have : nrm (init ++ [.old a (some l)]) := nrm_last (q := .old a (some b)) (by simp [sameH]) h
              simpa [rollF, e2] using this
            · have : nrm (init ++ [.old a (some b)] ++ [.old l (some l)]) := nrm_snoc.mpr ⟨h, by simp [weld, e2]⟩
              simpa [rollF, e2] using this
      · cases q with
        | top n =>
          have : nrm (init ++ [.top n] ++ [.new l r 1]) := nrm_snoc.mpr ⟨h, rfl⟩
          simpa [rollF, e] using this
        | old a b =>
          have : nrm (init ++ [.old a b] ++ [.new l r 1]) := nrm_snoc.mpr ⟨h, by cases b <;> rfl⟩
          simpa [rollF, e] using this
        | new l' h' n =>
          by_cases e2 : l' = l ∧ h' = r
          · obtain ⟨rfl, rfl⟩ := e2
            have : nrm (init ++ [.new l' h' (n + 1)]) := nrm_last (q := .new l' h' n) (by simp [sameH]) h
            simpa [rollF, e] using this
          · have : nrm (init ++ [.new l' h' n] ++ [.new l r 1]) := nrm_snoc.mpr ⟨h, by simp [weld]; intro a b; exact e2 ⟨a, b⟩⟩
            simpa [rollF, e, e2] using this
theorem rolled_nrm : ∀ (xs : List (Option Lab)) (found : List Pc) (rows : List (Option Lab)), Rolled found rows → nrm found → (∀ x ∈ xs, ∀ l, x = some l → labOk l) → nrm (xs.foldl rollF found)
  | [], found, rows, h, hn, _ => by simpa using hn
  | x :: xs, found, rows, h, hn, hx => by
    have := rolled_nrm xs _ _ (h.step (hx x (by simp))) (rollF_nrm h.cl hn (hx x (by simp))) fun y hy => hx y (by simp [hy])
    simpa using this
/-- all about the layout of listed rows -/
structure Lays (rows : List (Option Lab)) (ps : List Pc) (v : Int) : Prop where
  wh : Whole ps
  nr : nrm ps
  lst : rows.getLast? = some (some (v, v))
  held : Held rows (lab ps)
  tl : TailAt (lab ps) rows.length (v + 1)
theorem GRows.lays {rows : List (Option Lab)} {v : Int} (h : GRows rows v) : Lays rows (roll rows) v ∧ (roll rows).length ≤ rows.length := by
  have R := Rolled.fold rows [] [] ⟨by simp [allC], rfl, fun k hk => by simp at hk⟩ h.ok
  have N := rolled_nrm rows [] [] ⟨by simp [allC], rfl, fun k hk => by simp at hk⟩ trivial h.ok
  rw [List.nil_append] at R
  obtain ⟨init, a, b, e, ln⟩ := fold_last rows [] v h.lst
  rw [e] at R N
  obtain ⟨c1, c2⟩ := allC_app.mp R.cl
  have tt := R.tt
  rw [tot_app] at tt
  simp [tot, Pc.size] at tt
  have er : roll rows = init ++ [.old a none] := by simp [roll, rollE, e]
  have hvo : labOk (v, v) := h.ok _ (List.mem_of_getLast? h.lst) _ rfl
  have tn := tot_nonneg c1
  have hvb : (Pc.old a (some b)).valid = true := (c2 _ (by simp)).1
  simp [Pc.valid] at hvb
  have hne : 1 ≤ rows.length := by omega
  have last := R.at_ (rows.length - 1) (by omega)
  rw [← List.getLast?_eq_getElem?, h.lst, lab_app c1 (by omega), if_neg (by omega)] at last
  simp [lab, Pc.size, Pc.at_] at last
  have hvb2 : v = b := by omega
  have lay : Lay (init ++ [.old a none]) := ⟨init, a, rfl, c1, hvb.1⟩
  have held : Held rows (lab (roll rows)) := fun k hk => by
    rw [R.at_ k hk, er, lab_app c1 (by omega), lab_app c1 (by omega)]
    by_cases e2 : (k : Int) < tot init
    · rw [if_pos e2, if_pos e2]
    · rw [if_neg e2, if_neg e2]
      have e3 : (k : Int) - tot init < b - a + 1 := by omega
      simp [lab, Pc.size, Pc.at_, e3]
  have tl : TailAt (lab (roll rows)) rows.length (v + 1) := ⟨hne, fun i hi => by
    rw [er, lab_app c1 (by omega), if_neg (by omega)]
    simp [lab, Pc.size, Pc.at_]
    omega⟩
  have step : ∀ i, 0 ≤ i → ole (lab (roll rows) i) (lab (roll rows) (i + 1)) := fun i hi => by
    by_cases e1 : i + 1 < rows.length
    · obtain ⟨k, rfl⟩ : ∃ k : Nat, i = k := ⟨i.toNat, by omega⟩
      have h1 := held k (by omega)
      have h2 := held (k + 1) (by omega)
      have := (List.pairwise_iff_getElem.mp h.pw) k (k + 1) (by omega) (by omega) (by omega)
      rw [List.getElem?_eq_getElem (by omega)] at h1 h2
      injection h1 with h1
      injection h2 with h2
      rw [h1, h2] at this
      exact this
    · rw [tl.2 i (by omega), tl.2 (i + 1) (by omega)]
      simp [ole, lle]
      omega
  refine ⟨⟨?_, ?_, h.lst, held, tl⟩, ?_⟩
  · rw [er] at step held tl ⊢
    exact whole_of (ok_of _ none lay step fun q e => by cases e)
  · rw [er]
    exact nrm_last (q := .old a (some b)) (by simp [sameH]) N
  · rw [er]
    rw [e] at ln
    simpa using ln
theorem Whole.norm_id {ps : List Pc} (h : Whole ps) (n : nrm ps) : PR.norm ps = ps := by
  obtain ⟨w, n2, s⟩ := h.norm
  exact canon _ _ w.lay h.lay n2 n s
/-- layouts of the same rows -/
theorem Lays.uniq {rows : List (Option Lab)} {ps qs : List Pc} {v : Int} (h : Lays rows ps v) (g : Lays rows qs v) : ps = qs := by
  refine canon _ _ h.wh.lay g.wh.lay h.nr g.nr fun r hr => ?_
  by_cases e : r < rows.length
  · obtain ⟨k, rfl⟩ : ∃ k : Nat, r = k := ⟨r.toNat, by omega⟩
    have h1 := h.held k (by omega)
    have h2 := g.held k (by omega)
    rw [h1] at h2
    injection h2
  · rw [h.tl.2 r (by omega), g.tl.2 r (by omega)]
theorem Lays.gr {rows : List (Option Lab)} {ps : List Pc} {v : Int} (h : Lays rows ps v) : GRows rows v := by
  refine ⟨List.pairwise_iff_getElem.mpr fun i j hi hj hij => ?_, fun x hx l e => ?_, h.lst⟩
  · have h1 := h.held i hi
    have h2 := h.held j hj
    rw [List.getElem?_eq_getElem (by omega)] at h1 h2
    injection h1 with h1
    injection h2 with h2
    rw [h1, h2]
    exact h.wh.good.mono i j (by omega) (by omega)
  · obtain ⟨k, hk, rfl⟩ := List.getElem_of_mem hx
    have h1 := h.held k hk
    rw [List.getElem?_eq_getElem (by omega)] at h1
    injection h1 with h1
    exact h.wh.good.ok k l (by omega) (by rw [← h1]; exact e)
/-- the layout of listed rows is what they roll to -/
theorem Lays.roll_eq {rows : List (Option Lab)} {ps : List Pc} {v : Int} (h : Lays rows ps v) : roll rows = ps := (h.gr.lays.1).uniq h
theorem rows_gr {k : Nat} {rows : List (Option Lab)} (h : Rows k rows) : ∃ v : Int, (8 ≤ v ∧ v ≤ 6 * k + 18) ∧ GRows rows v := by
  obtain ⟨g1, g2, g3, g4, g5, g6, g7⟩ := rows_good h
  obtain ⟨v, b, h2, h3, h4⟩ := roll_rows h
  obtain ⟨t, ls, v', hr, ht, hl, hp, ho, hb⟩ := h.ex
  have w := whole_of g1
  refine ⟨v, b, List.pairwise_iff_getElem.mpr fun i j hi hj hij => ?_, fun x hx l e => ?_, h2⟩
  · have h1 := h3 i hi
    have h2 := h3 j hj
    rw [List.getElem?_eq_getElem (by omega)] at h1 h2
    injection h1 with h1
    injection h2 with h2
    rw [h1, h2]
    exact w.good.mono i j (by omega) (by omega)
  · obtain ⟨k, hk, rfl⟩ := List.getElem_of_mem hx
    have h1 := h3 k hk
    rw [List.getElem?_eq_getElem (by omega)] at h1
    injection h1 with h1
    exact w.good.ok k l (by omega) (by rw [← h1]; exact e)
end PR
/-! ML: what the law's helpers promise. -/
namespace PR
open PySem PySem.Spec PyProof.Rows L2 DL
abbrev C__law_bag : Ctr := C_bag
abbrev C__law_pull : Ctr := C_pull
abbrev C__law_of : Ctr := C_of
/-! ### like -/
mutual
/-- data that is compared part by part -/
def lk : D → Bool
  | .non => true
  | .bl _ => true
  | .int _ => true
  | .str x => PyData.strOk x
  | .tup ds => decide (ds.length < 1000) && lks ds
  | .lst ds => decide (ds.length < 1000) && lks ds
  | _ => false
def lks : List D → Bool
  | [] => true
  | d :: ds => lk d && lks ds
end
@[simp] theorem lk_non : lk .non = true := rfl
@[simp] theorem lk_bl (b : Bool) : lk (.bl b) = true := rfl
@[simp] theorem lk_int (b : Int) : lk (.int b) = true := rfl
@[simp] theorem lk_str (b : Str) : lk (.str b) = PyData.strOk b := rfl
@[simp] theorem lk_tup (ds : List D) : lk (.tup ds) = (decide (ds.length < 1000) && lks ds) := rfl
@[simp] theorem lk_lst (ds : List D) : lk (.lst ds) = (decide (ds.length < 1000) && lks ds) := rfl
@[simp] theorem lks_nil : lks [] = true := rfl
@[simp] theorem lks_cons (d : D) (ds : List D) : lks (d :: ds) = (lk d && lks ds) := rfl
/-- alike: the same data -/
def C_like (n : Nat) : Ctr := fun ds Q => ∃ a : D, ds = [a, a] ∧ lk a = true ∧ dep a ≤ n ∧ Q (.v 2 (.bl true))
abbrev C__law_like : Ctr := C_like 10
/-! ### rows -/
def C__law_rolled : Ctr := fun ds Q => ∃ rows : List (Option Lab), ds = [.lst (rows.map oL)] ∧ oldEnd rows ∧ rows.length < 1000 ∧ Q (.own (pcsD (roll rows)))
def C__law_any_rows : Ctr := fun ds Q => ∃ most : Nat, ds = [.bag, .int most] ∧ most ≤ 50 ∧ ∀ rows, Rows most rows → Q (.own (rows.map oL))
def C__law_made_of : Ctr := fun ds Q => ∃ (rows : List (Option Lab)) (v : Int), ds = [.lst (rows.map oL)] ∧ GRows rows v ∧ rows.length ≤ 60 ∧ Q (.v 2 (layD (roll rows)))
def C__law_is_break : Ctr := fun ds Q => ∃ (b : Option Lab) (a : Lab), ds = [oL b, labD a] ∧ Q (.v 2 (.bl (brkL b a)))
def C__law_breaks : Ctr := fun ds Q => ∃ rows : List (Option Lab), ds = [.lst (rows.map oL)] ∧ oldEnd rows ∧ rows.length < 1000 ∧ Q (.own ((brkR none (labsOf rows)).map brkD))
end PR
/-! TL: the readings of the law helpers (printed by mkt.py). -/
namespace PR
open PySem PySem.Spec PyProof.Rows L2 DL
abbrev N__law_pull : List Str := ["_law_bag_here", "_law_size", "_law_mix", "_law_figure", "_law_found"]
abbrev P__law_pull : List Str := ["_law_bag_here", "_law_size"]
def t__law_pull : DTS := (dSeq (dAsg (dOp fAdd (dBg 4) (dK (.int 1))) (gBg 4)) (dSeq (dIf (tvAnd (tV (dOp fEq (dBg 2) (dK (.int 0)))) (tV (dOp fLt (dBg 1) (dCB fLen (aCons (dBg 0) aNil))))) (dSeq (dSet 3 (dOp fIx (dBg 0) (dBg 1))) (dSeq (dAsg (dOp fAdd (dBg 1) (dK (.int 1))) (gBg 1)) (dIf (tV (dOp fGe (dVar 3) (dOp fPow (dK (.int 10)) (dK (.int 18))))) (dAsg (dVar 3) (gBg 2)) (dSeq (dSet 2 (dOp fAdd (dOp fMul (dBg 3) (dK (.int 48271))) (dOp fMul (dOp fMod (dVar 3) (dK (.int 2147483563))) (dK (.int 69621))))) (dAsg (dOp fMod (dOp fAdd (dVar 2) (dK (.int 11))) (dK (.int 2147483563))) (gBg 3)))))) dNext) (dSeq (dIf (tV (dOp fGt (dBg 2) (dK (.int 0)))) (dSeq (dSet 4 (dOp fMod (dBg 2) (dVar 1))) (dSeq (dAsg (dOp fDiv (dBg 2) (dVar 1)) (gBg 2)) (dRetB (dVar 4)))) dNext) (dSeq (dSet 2 (dOp fAdd (dOp fMul (dOp fMul (dBg 3) (dBg 3)) (dK (.int 5))) (dOp fMul (dBg 3) (dK (.int 39373))))) (dSeq (dAsg (dOp fMod (dOp fAdd (dVar 2) (dOp fMul (dK (.int 1013904223)) (dBg 4))) (dK (.int 2147483563))) (gBg 3)) (dRetB (dOp fMod (dOp fDiv (dBg 3) (dK (.int 37))) (dVar 1))))))))
abbrev N__law_of : List Str := ["_law_bag_here", "_law_some"]
abbrev P__law_of : List Str := ["_law_bag_here", "_law_some"]
def t__law_of : DTS := (dRet (dOp fIx (dVar 1) (dCall C__law_pull [] (aCons (dVar 0) (aCons (dCB fLen (aCons (dVar 1) aNil)) aNil)))))
abbrev N__law_like : List Str := ["_law_found", "_law_due", "_law_k"]
abbrev P__law_like : List Str := ["_law_found", "_law_due"]
def le1__law_like (CR : Ctr) : DTE := (dCall CR [] (aCons (dOp fIx (dVar 0) (dVar 2)) (aCons (dOp fIx (dVar 1) (dVar 2)) aNil)))
theorem le1__law_like_e (CR : Ctr) (τ : DSt) (Q : Sl → Prop) : (le1__law_like CR) τ Q = (dCall CR [] (aCons (dOp fIx (dVar 0) (dVar 2)) (aCons (dOp fIx (dVar 1) (dVar 2)) aNil))) τ Q := rfl
def t__law_like (CR : Ctr) : DTS := (dSeq (dIf (tV (dIsI2 .tup .lst (dVar 1))) (dSeq (dIf (tvOr (tV (dOp fNe (dIsI .tup (dVar 0)) (dIsI .tup (dVar 1)))) (tV (dOp fNe (dIsI .lst (dVar 0)) (dIsI .lst (dVar 1))))) (dRet (dK (.bl false))) dNext) (dRet (vAnd (dOp fEq (dCB fLen (aCons (dVar 0) aNil)) (dCB fLen (aCons (dVar 1) aNil))) (dCB fAll (aCons (dLcR (aCons (dCB fLen (aCons (dVar 1) aNil)) aNil) (gN 2) tYesD (le1__law_like CR) [2]) aNil))))) dNext) (dSeq (dIf (tvOr (tV (dIsN (dVar 1))) (tV (dIsN (dVar 0)))) (dRet (vAnd (dIsN (dVar 1)) (dIsN (dVar 0)))) dNext) (dRet (vAnd (dOp fEq (dIsI .bool (dVar 0)) (dIsI .bool (dVar 1))) (dOp fEq (dVar 0) (dVar 1))))))
abbrev N__law_rolled : List Str := ["_law_rows", "_law_found", "_law_label", "_law_last", "_law_piece", "_law_both", "_law_same"]
abbrev P__law_rolled : List Str := ["_law_rows"]
def lb1__law_rolled : DTS := (dSeq (dSet 3 (dIfE (tV (dOp fNe (dVar 1) (dLst aNil))) (dIxL (dVar 1)) (dTup (aCons (dK (.str "")) (aCons (dK (.int 0)) (aCons (dK (.int 0)) (aCons (dK (.int 0)) aNil))))))) (dSeq (dIf (tV (dIsN (dVar 2))) (dSeq (dPar 4 5 false false (dTup (aCons (dK (.str "top")) (aCons (dK (.int 1)) aNil))) (dTup (aCons (dK (.str "top")) (aCons (dOp fAdd (dIxK 1 (dVar 3)) (dK (.int 1))) aNil)))) (dSet 6 (dOp fEq (dIxK 0 (dVar 3)) (dK (.str "top"))))) (dIf (tV (dOp fEq (dIxK 0 (dVar 2)) (dIxK 1 (dVar 2)))) (dSeq (dPar 4 5 false false (dTup (aCons (dK (.str "old")) (aCons (dIxK 0 (dVar 2)) (aCons (dIxK 0 (dVar 2)) aNil)))) (dTup (aCons (dK (.str "old")) (aCons (dIxK 1 (dVar 3)) (aCons (dIxK 0 (dVar 2)) aNil))))) (dSet 6 (vAnd (dOp fEq (dIxK 0 (dVar 3)) (dK (.str "old"))) (dOp fEq (dOp fAdd (dIxK 2 (dVar 3)) (dK (.int 1))) (dIxK 0 (dVar 2)))))) (dSeq (dPar 4 5 false false (dTup (aCons (dK (.str "new")) (aCons (dIxK 0 (dVar 2)) (aCons (dIxK 1 (dVar 2)) (aCons (dK (.int 1)) aNil))))) (dTup (aCons (dK (.str "new")) (aCons (dIxK 0 (dVar 2)) (aCons (dIxK 1 (dVar 2)) (aCons (dOp fAdd (dIxL (dVar 3)) (dK (.int 1))) aNil)))))) (dSet 6 (dOp fEq (dSl (dVar 3) oNone (oSome (dK (.int 3)))) (dSl (dVar 4) oNone (oSome (dK (.int 3))))))))) (dSet 1 (dIfE (tV (dVar 6)) (dOp fAdd (dSl (dVar 1) oNone (oSome (dNeg (dK (.int 1))))) (dLst (aCons (dVar 5) aNil))) (dOp fAdd (dVar 1) (dLst (aCons (dVar 4) aNil)))))))
theorem lb1__law_rolled_e (E : DEnds) (τ : DSt) : lb1__law_rolled E τ = (dSeq (dSet 3 (dIfE (tV (dOp fNe (dVar 1) (dLst aNil))) (dIxL (dVar 1)) (dTup (aCons (dK (.str "")) (aCons (dK (.int 0)) (aCons (dK (.int 0)) (aCons (dK (.int 0)) aNil))))))) (dSeq (dIf (tV (dIsN (dVar 2))) (dSeq (dPar 4 5 false false (dTup (aCons (dK (.str "top")) (aCons (dK (.int 1)) aNil))) (dTup (aCons (dK (.str "top")) (aCons (dOp fAdd (dIxK 1 (dVar 3)) (dK (.int 1))) aNil)))) (dSet 6 (dOp fEq (dIxK 0 (dVar 3)) (dK (.str "top"))))) (dIf (tV (dOp fEq (dIxK 0 (dVar 2)) (dIxK 1 (dVar 2)))) (dSeq (dPar 4 5 false false (dTup (aCons (dK (.str "old")) (aCons (dIxK 0 (dVar 2)) (aCons (dIxK 0 (dVar 2)) aNil)))) (dTup (aCons (dK (.str "old")) (aCons (dIxK 1 (dVar 3)) (aCons (dIxK 0 (dVar 2)) aNil))))) (dSet 6 (vAnd (dOp fEq (dIxK 0 (dVar 3)) (dK (.str "old"))) (dOp fEq (dOp fAdd (dIxK 2 (dVar 3)) (dK (.int 1))) (dIxK 0 (dVar 2)))))) (dSeq (dPar 4 5 false false (dTup (aCons (dK (.str "new")) (aCons (dIxK 0 (dVar 2)) (aCons (dIxK 1 (dVar 2)) (aCons (dK (.int 1)) aNil))))) (dTup (aCons (dK (.str "new")) (aCons (dIxK 0 (dVar 2)) (aCons (dIxK 1 (dVar 2)) (aCons (dOp fAdd (dIxL (dVar 3)) (dK (.int 1))) aNil)))))) (dSet 6 (dOp fEq (dSl (dVar 3) oNone (oSome (dK (.int 3)))) (dSl (dVar 4) oNone (oSome (dK (.int 3))))))))) (dSet 1 (dIfE (tV (dVar 6)) (dOp fAdd (dSl (dVar 1) oNone (oSome (dNeg (dK (.int 1))))) (dLst (aCons (dVar 5) aNil))) (dOp fAdd (dVar 1) (dLst (aCons (dVar 4) aNil))))))) E τ := rfl
def t__law_rolled : DTS := (dSeq (dSet 1 (dLst aNil)) (dSeq (dFor (dVar 0) (gN 2) lb1__law_rolled) (dRet (dOp fAdd (dSl (dVar 1) oNone (oSome (dNeg (dK (.int 1))))) (dLst (aCons (dTup (aCons (dK (.str "old")) (aCons (dIxK 1 (dIxL (dVar 1))) (aCons (dK .non) aNil)))) aNil))))))
abbrev N__law_any_rows : List Str := ["_law_bag_here", "_law_most", "_law_rows", "_law_low", "_law_high", "_law_last", "_law_k", "_law_first", "_law_row"]
abbrev P__law_any_rows : List Str := ["_law_bag_here", "_law_most"]
def le1__law_any_rows : DTE := (dTup (aCons (dVar 8) (aCons (dVar 8) aNil)))
theorem le1__law_any_rows_e (τ : DSt) (Q : Sl → Prop) : le1__law_any_rows τ Q = (dTup (aCons (dVar 8) (aCons (dVar 8) aNil))) τ Q := rfl
def lb2__law_any_rows : DTS := (dIf (tV (dOp fEq (dCall C__law_pull [] (aCons (dVar 0) (aCons (dK (.int 3)) aNil))) (dK (.int 0)))) (dSeq (dSet 7 (dOp fAdd (dCB fMax3 (aCons (dVar 3) (aCons (dVar 4) (aCons (dOp fAdd (dVar 5) (dK (.int 1))) aNil)))) (dCall C__law_of [] (aCons (dVar 0) (aCons (dLst (aCons (dK (.int 0)) (aCons (dK (.int 0)) (aCons (dK (.int 1)) (aCons (dK (.int 2)) aNil))))) aNil))))) (dSeq (dSet 5 (dOp fAdd (dVar 7) (dCall C__law_of [] (aCons (dVar 0) (aCons (dLst (aCons (dK (.int 0)) (aCons (dK (.int 0)) (aCons (dK (.int 1)) (aCons (dK (.int 2)) aNil))))) aNil))))) (dSeq (dSet 2 (dOp fAdd (dVar 2) (dLcR2 (aCons (dVar 7) (aCons (dOp fAdd (dVar 5) (dK (.int 1))) aNil)) (gN 8) tYesD le1__law_any_rows [8]))) (dPar 3 4 false false (dVar 5) (dVar 5))))) (dSeq (dSet 3 (dOp fAdd (dVar 3) (dCall C__law_of [] (aCons (dVar 0) (aCons (dLst (aCons (dK (.int 0)) (aCons (dK (.int 0)) (aCons (dK (.int 1)) (aCons (dK (.int 2)) aNil))))) aNil))))) (dSeq (dSet 4 (dOp fAdd (dCB fMax (aCons (dVar 4) (aCons (dOp fAdd (dVar 3) (dK (.int 1))) aNil))) (dCall C__law_of [] (aCons (dVar 0) (aCons (dLst (aCons (dK (.int 0)) (aCons (dK (.int 0)) (aCons (dK (.int 1)) (aCons (dK (.int 3)) aNil))))) aNil))))) (dSet 2 (dOp fAdd (dVar 2) (dOp fMul (dLst (aCons (dTup (aCons (dVar 3) (aCons (dVar 4) aNil))) aNil)) (dCall C__law_of [] (aCons (dVar 0) (aCons (dLst (aCons (dK (.int 1)) (aCons (dK (.int 1)) (aCons (dK (.int 2)) (aCons (dK (.int 3)) aNil))))) aNil)))))))))
theorem lb2__law_any_rows_e (E : DEnds) (τ : DSt) : lb2__law_any_rows E τ = (dIf (tV (dOp fEq (dCall C__law_pull [] (aCons (dVar 0) (aCons (dK (.int 3)) aNil))) (dK (.int 0)))) (dSeq (dSet 7 (dOp fAdd (dCB fMax3 (aCons (dVar 3) (aCons (dVar 4) (aCons (dOp fAdd (dVar 5) (dK (.int 1))) aNil)))) (dCall C__law_of [] (aCons (dVar 0) (aCons (dLst (aCons (dK (.int 0)) (aCons (dK (.int 0)) (aCons (dK (.int 1)) (aCons (dK (.int 2)) aNil))))) aNil))))) (dSeq (dSet 5 (dOp fAdd (dVar 7) (dCall C__law_of [] (aCons (dVar 0) (aCons (dLst (aCons (dK (.int 0)) (aCons (dK (.int 0)) (aCons (dK (.int 1)) (aCons (dK (.int 2)) aNil))))) aNil))))) (dSeq (dSet 2 (dOp fAdd (dVar 2) (dLcR2 (aCons (dVar 7) (aCons (dOp fAdd (dVar 5) (dK (.int 1))) aNil)) (gN 8) tYesD le1__law_any_rows [8]))) (dPar 3 4 false false (dVar 5) (dVar 5))))) (dSeq (dSet 3 (dOp fAdd (dVar 3) (dCall C__law_of [] (aCons (dVar 0) (aCons (dLst (aCons (dK (.int 0)) (aCons (dK (.int 0)) (aCons (dK (.int 1)) (aCons (dK (.int 2)) aNil))))) aNil))))) (dSeq (dSet 4 (dOp fAdd (dCB fMax (aCons (dVar 4) (aCons (dOp fAdd (dVar 3) (dK (.int 1))) aNil))) (dCall C__law_of [] (aCons (dVar 0) (aCons (dLst (aCons (dK (.int 0)) (aCons (dK (.int 0)) (aCons (dK (.int 1)) (aCons (dK (.int 3)) aNil))))) aNil))))) (dSet 2 (dOp fAdd (dVar 2) (dOp fMul (dLst (aCons (dTup (aCons (dVar 3) (aCons (dVar 4) aNil))) aNil)) (dCall C__law_of [] (aCons (dVar 0) (aCons (dLst (aCons (dK (.int 1)) (aCons (dK (.int 1)) (aCons (dK (.int 2)) (aCons (dK (.int 3)) aNil))))) aNil))))))))) E τ := rfl
def le3__law_any_rows : DTE := (dTup (aCons (dVar 8) (aCons (dVar 8) aNil)))
theorem le3__law_any_rows_e (τ : DSt) (Q : Sl → Prop) : le3__law_any_rows τ Q = (dTup (aCons (dVar 8) (aCons (dVar 8) aNil))) τ Q := rfl
def t__law_any_rows : DTS := (dSeq (dAsg (dTup (aCons (dOp fMul (dLst (aCons (dK .non) aNil)) (dCall C__law_of [] (aCons (dVar 0) (aCons (dLst (aCons (dK (.int 0)) (aCons (dK (.int 0)) (aCons (dK (.int 1)) (aCons (dK (.int 3)) aNil))))) aNil)))) (aCons (dK (.int 0)) (aCons (dK (.int 0)) (aCons (dNeg (dK (.int 1))) aNil))))) (gT 4 (gsCons (gN 2) (gsCons (gN 3) (gsCons (gN 4) (gsCons (gN 5) gsNil)))))) (dSeq (dForR (aCons (dCall C__law_pull [] (aCons (dVar 0) (aCons (dOp fAdd (dVar 1) (dK (.int 1))) aNil))) aNil) (gN 6) lb2__law_any_rows) (dSeq (dSet 7 (dOp fAdd (dCB fMax3 (aCons (dVar 3) (aCons (dVar 4) (aCons (dOp fAdd (dVar 5) (dK (.int 1))) aNil)))) (dCall C__law_of [] (aCons (dVar 0) (aCons (dLst (aCons (dK (.int 0)) (aCons (dK (.int 0)) (aCons (dK (.int 1)) (aCons (dK (.int 2)) aNil))))) aNil))))) (dRet (dOp fAdd (dVar 2) (dLcR2 (aCons (dVar 7) (aCons (dOp fAdd (dVar 7) (dK (.int 9))) aNil)) (gN 8) tYesD le3__law_any_rows [8]))))))
abbrev N__law_is_break : List Str := ["_law_x", "_law_y"]
abbrev P__law_is_break : List Str := ["_law_x", "_law_y"]
def t__law_is_break : DTS := (dSeq (dIf (tV (dIsN (dVar 0))) (dRet (dOp fNe (dVar 1) (dTup (aCons (dK (.int 0)) (aCons (dK (.int 0)) aNil))))) dNext) (dSeq (dIf (tvOr (tV (dOp fEq (dIxK 0 (dVar 0)) (dIxK 0 (dVar 1)))) (tV (dOp fEq (dIxK 1 (dVar 0)) (dIxK 1 (dVar 1))))) (dRet (dK (.bl false))) dNext) (dRet (vNot (vAnd (dOp fEq (dIxK 0 (dVar 0)) (dIxK 1 (dVar 0))) (vAnd (dOp fEq (dIxK 0 (dVar 1)) (dIxK 1 (dVar 1))) (dOp fEq (dOp fAdd (dIxK 0 (dVar 0)) (dK (.int 1))) (dIxK 0 (dVar 1)))))))))
abbrev N__law_breaks : List Str := ["_law_rows", "_law_labels", "_law_pairs", "_law_label", "_law_pair", "_law_k"]
abbrev P__law_breaks : List Str := ["_law_rows"]
def lt1__law_breaks : DTT := (tV (dNotN (dVar 3)))
theorem lt1__law_breaks_e (τ : DSt) (Q : Bool → Prop) : lt1__law_breaks τ Q = (tV (dNotN (dVar 3))) τ Q := rfl
def le2__law_breaks : DTE := (dVar 3)
theorem le2__law_breaks_e (τ : DSt) (Q : Sl → Prop) : le2__law_breaks τ Q = (dVar 3) τ Q := rfl
def le3__law_breaks : DTE := (dTup (aCons (dOp fIx (dVar 1) (dVar 5)) (aCons (dOp fIx (dVar 1) (dOp fAdd (dVar 5) (dK (.int 1)))) aNil)))
theorem le3__law_breaks_e (τ : DSt) (Q : Sl → Prop) : le3__law_breaks τ Q = (dTup (aCons (dOp fIx (dVar 1) (dVar 5)) (aCons (dOp fIx (dVar 1) (dOp fAdd (dVar 5) (dK (.int 1)))) aNil))) τ Q := rfl
def lt4__law_breaks : DTT := (tV (dCall C__law_is_break [] (aCons (dIxK 0 (dVar 4)) (aCons (dIxK 1 (dVar 4)) aNil))))
theorem lt4__law_breaks_e (τ : DSt) (Q : Bool → Prop) : lt4__law_breaks τ Q = (tV (dCall C__law_is_break [] (aCons (dIxK 0 (dVar 4)) (aCons (dIxK 1 (dVar 4)) aNil)))) τ Q := rfl
def le5__law_breaks : DTE := (dVar 4)
theorem le5__law_breaks_e (τ : DSt) (Q : Sl → Prop) : le5__law_breaks τ Q = (dVar 4) τ Q := rfl
def t__law_breaks : DTS := (dSeq (dSet 1 (dLc (dVar 0) (gN 3) lt1__law_breaks le2__law_breaks [3])) (dSeq (dSet 2 (dOp fAdd (dLst (aCons (dTup (aCons (dK .non) (aCons (dIxK 0 (dVar 1)) aNil))) aNil)) (dLcR (aCons (dOp fSub (dCB fLen (aCons (dVar 1) aNil)) (dK (.int 1))) aNil) (gN 5) tYesD le3__law_breaks [5]))) (dRet (dLc (dVar 2) (gN 4) lt4__law_breaks le5__law_breaks [4]))))
abbrev N__law_made_of : List Str := ["_law_rows"]
abbrev P__law_made_of : List Str := ["_law_rows"]
def t__law_made_of : DTS := (dRet (dMake 0 C_Layout___init__ [] (aCons (dCall C__law_rolled [] (aCons (dVar 0) aNil)) aNil)))
end PR
/-! PL: what the law's helpers do. -/
namespace PR
open PySem PySem.Spec PyProof.Rows L2 DL
theorem bagGood_mk {L : Addr} {ns : List Int} {i x m c : Int} {r : DSt} (a1 : 0 ≤ i) (a2 : 0 ≤ x) (a3 : 0 ≤ m) (a4 : m < 2147483563) (a5 : 0 ≤ c) : bagGood L (.ins 999 (bagD L ns i x m c) :: r) := ⟨ns, i, x, m, c, rfl, a1, a2, a3, a4, a5⟩
def pullT : DTS := (dSeq (dIf (tV (dOp fGt (dBg 2) (dK (.int 0)))) (dSeq (dSet 4 (dOp fMod (dBg 2) (dVar 1))) (dSeq (dAsg (dOp fDiv (dBg 2) (dVar 1)) (gBg 2)) (dRetB (dVar 4)))) dNext) (dSeq (dSet 2 (dOp fAdd (dOp fMul (dOp fMul (dBg 3) (dBg 3)) (dK (.int 5))) (dOp fMul (dBg 3) (dK (.int 39373))))) (dSeq (dAsg (dOp fMod (dOp fAdd (dVar 2) (dOp fMul (dK (.int 1013904223)) (dBg 4))) (dK (.int 2147483563))) (gBg 3)) (dRetB (dOp fMod (dOp fDiv (dBg 3) (dK (.int 37))) (dVar 1))))))
theorem pullT_ok {R : DSt → D → Prop} {L : Addr} {ns : List Int} {i x m c n : Int} {s2 s3 s4 : Sl} (h1 : 0 ≤ i) (h2 : 0 ≤ x) (h3 : 0 ≤ m) (h4 : m < 2147483563) (h5 : 0 ≤ c) (h6 : 0 < n) (h7 : n < 1073741824)
    (fin : ∀ (i x m c k : Int) (r : DSt), 0 ≤ i → 0 ≤ x → 0 ≤ m → m < 2147483563 → 0 ≤ c → 0 ≤ k → k < n → R (.ins 999 (bagD L ns i x m c) :: r) (.int k)) :
    pullT { nx := fun _ => False, rt := fun _ => False, rb := R } [.ins 999 (bagD L ns i x m c), .v 2 (.int n), s2, s3, s4] := by
  have hm : ∀ a : Int, 0 ≤ a % n ∧ a % n < n := fun a => ⟨Int.emod_nonneg a (by omega), Int.emod_lt_of_pos a h6⟩
  by_cases hx : 0 < x
  · simp [pullT, bagD, hx, h6, CDiv, h7]
    exact fin i (x / n) m c _ _ h1 (Int.ediv_nonneg h2 (by omega)) h3 h4 h5 (hm _).1 (hm _).2
  · have e : x = 0 := by omega
    subst e
    have c1 : ∀ y : Int, CMul m y := fun y => .inl ⟨by omega, by omega⟩
    have c2 : ∀ y : Int, CMul y 5 := fun y => .inr ⟨by omega, by omega⟩
    have c3 : ∀ y : Int, CMul 1013904223 y := fun y => .inl ⟨by omega, by omega⟩
    simp [pullT, bagD, c1, c2, c3, h6, CDiv]
    generalize (m * m * 5 + m * 39373 + 1013904223 * c) = z
    exact fin i 0 _ c _ _ h1 (by decide) (Int.emod_nonneg z (by decide)) (Int.emod_lt_of_pos z (by decide)) h5 (hm _).1 (hm _).2

def pullA : DTS := dSeq (dSet 3 (dOp fIx (dBg 0) (dBg 1))) (dSeq (dAsg (dOp fAdd (dBg 1) (dK (.int 1))) (gBg 1)) (dIf (tV (dOp fGe (dVar 3) (dOp fPow (dK (.int 10)) (dK (.int 18))))) (dAsg (dVar 3) (gBg 2)) (dSeq (dSet 2 (dOp fAdd (dOp fMul (dBg 3) (dK (.int 48271))) (dOp fMul (dOp fMod (dVar 3) (dK (.int 2147483563))) (dK (.int 69621))))) (dAsg (dOp fMod (dOp fAdd (dVar 2) (dK (.int 11))) (dK (.int 2147483563))) (gBg 3)))))
theorem pullA_ok {E : DEnds} {L : Addr} {ns : List Int} {i m c n : Int} {s2 s3 s4 : Sl} (h1 : 0 ≤ i) (hi : i < ns.length) (h3 : 0 ≤ m) (h4 : m < 2147483563)
    (fin : ∀ (i x m : Int) (s2 s3 : Sl), 0 ≤ i → 0 ≤ x → 0 ≤ m → m < 2147483563 → E.nx [.ins 999 (bagD L ns i x m c), .v 2 (.int n), s2, s3, s4]) :
    pullA E [.ins 999 (bagD L ns i 0 m c), .v 2 (.int n), s2, s3, s4] := by
  obtain ⟨k, rfl⟩ := Int.eq_ofNat_of_zero_le h1
  have hk : k < ns.length := by omega
  have e : L2.atI (ns.map D.int) (k : Int) = some (.int ns[k]) := by rw [atI_k, List.getElem?_map, List.getElem?_eq_getElem hk]; rfl
  have c1 : ∀ y : Int, CMul m y := fun y => .inl ⟨by omega, by omega⟩
  have c2 : ∀ y : Int, CMul y 69621 := fun y => .inr ⟨by omega, by omega⟩
  have c3 : CPow 10 18 := ⟨by decide, by decide, by decide⟩
  have e2 : (10 : Int) ^ 18 = 1000000000000000000 := by decide
  generalize hv : ns[k] = v at e
  have hE := fin (k + 1)
  simp [pullA, bagD, e, c1, c2, c3]
  split
  · exact hE v m _ _ (by omega) (by omega) h3 h4
  · generalize (m * 48271 + v % 2147483563 * 69621 + 11) = z
    exact hE 0 _ _ _ (by omega) (by decide) (Int.emod_nonneg z (by decide)) (Int.emod_lt_of_pos z (by decide))
theorem pure__law_pull (L : Addr) (ns : List Int) (i x m c n : Int) (h1 : 0 ≤ i) (h2 : 0 ≤ x) (h3 : 0 ≤ m) (h4 : m < 2147483563) (h5 : 0 ≤ c) (h6 : 0 < n) (h7 : n < 1073741824) :
    t__law_pull { nx := fun _ => False, rt := fun _ => False, rb := fun τ d => bagGood L τ ∧ ∃ k : Int, d = .int k ∧ 0 ≤ k ∧ k < n } (startP N__law_pull L ns i x m c n) := by
  generalize hR : (fun (τ : DSt) (d : D) => bagGood L τ ∧ ∃ k : Int, d = .int k ∧ 0 ≤ k ∧ k < n) = R
  have fin : ∀ (i x m c k : Int) (r : DSt), 0 ≤ i → 0 ≤ x → 0 ≤ m → m < 2147483563 → 0 ≤ c → 0 ≤ k → k < n → R (.ins 999 (bagD L ns i x m c) :: r) (.int k) := by
    intro i x m c k r a1 a2 a3 a4 a5 a6 a7
    rw [← hR]
    exact ⟨bagGood_mk a1 a2 a3 a4 a5, k, rfl, a6, a7⟩
  clear hR
  have hc : 0 ≤ c + 1 := by omega
  have T := fun {i x m : Int} {s2 s3 s4 : Sl} a1 a2 a3 a4 => pullT_ok (R := R) (L := L) (ns := ns) (i := i) (x := x) (m := m) (c := c + 1) (n := n) (s2 := s2) (s3 := s3) (s4 := s4) a1 a2 a3 a4 hc h6 h7 fin
  show dSeq (dAsg (dOp fAdd (dBg 4) (dK (.int 1))) (gBg 4)) (dSeq (dIf (tvAnd (tV (dOp fEq (dBg 2) (dK (.int 0)))) (tV (dOp fLt (dBg 1) (dCB fLen (aCons (dBg 0) aNil))))) pullA dNext) pullT) { nx := fun _ => False, rt := fun _ => False, rb := R } (startP N__law_pull L ns i x m c n)
  by_cases hx : x = 0
  · subst hx
    by_cases hi : i < ns.length
    · simp [bagD, hi]
      exact pullA_ok h1 hi h3 h4 fun i x m s2 s3 a1 a2 a3 a4 => T a1 a2 a3 a4
    · simp [bagD, hi]
      exact T h1 h2 h3 h4
  · simp [bagD, hx]
    exact T h1 h2 h3 h4
theorem pure__law_of : Pure C__law_of t__law_of N__law_of := by
  intro ds QD h
  match ds, h with
  | [.bag, .lst es], ⟨h1, h2, h3, q⟩ =>
    simp [t__law_of, h1]
    refine ⟨by omega, by omega, fun k k1 k2 => ?_⟩
    obtain ⟨j, rfl⟩ := Int.eq_ofNat_of_zero_le k1
    have hj : j < es.length := by omega
    show match L2.atI es (j : Int) with
      | some x => _
      | none => False
    rw [atI_k, List.getElem?_eq_getElem hj]
    have hi : ∀ d ∈ es, d.imm = true := by
      clear q h2 h3 k2 hj
      induction es with
      | nil => intro d hd; cases hd
      | cons x es ih =>
        simp at h1
        intro d hd
        rcases List.mem_cons.mp hd with rfl | hd
        · exact h1.1
        · exact ih h1.2 d hd
    have hm := List.getElem_mem hj
    simp [hi _ hm]
    exact q _ hm

theorem pure__law_is_break : Pure C__law_is_break t__law_is_break N__law_is_break := by
  rintro ds QD ⟨b, a, rfl, q⟩
  obtain ⟨a1, a2⟩ := a
  cases b with
  | none => simpa [t__law_is_break, brkL, labD] using q
  | some b =>
    obtain ⟨b1, b2⟩ := b
    by_cases h1 : b1 = a1 <;> by_cases h2 : b2 = a2 <;> by_cases h3 : b1 = b2 <;> by_cases h4 : a1 = a2 <;> first | (simpa [t__law_is_break, brkL, labD, h1, h2, h3, h4] using q) | (simp [t__law_is_break, brkL, labD, h1, h2, h3, h4] at q ⊢; split <;> simp_all)
/-! ### like -/
theorem lk_lay : ∀ d : D, lk d = true → lay d = true
  | .non, _ => rfl
  | .bl _, _ => rfl
  | .int _, _ => rfl
  | .str x, h => h
  | .tup ds, h => by
    simp at h
    simpa using lks_lays ds h.2
  | .lst ds, h => by
    simp at h
    simpa using lks_lays ds h.2
  | .obj _ _, h => by cases h
  | .bag, h => by cases h
  | .cls _, h => by cases h
  | .lat _ _, h => by cases h
  | .scr _, h => by cases h
  | .exn _ _ _ _, h => by cases h
where lks_lays : ∀ ds : List D, lks ds = true → lays ds = true
  | [], _ => rfl
  | d :: ds, h => by
    simp at h ⊢
    exact ⟨lk_lay d h.1, lks_lays ds h.2⟩
theorem lks_get {ds : List D} {i : Nat} {d : D} (h : lks ds = true) (e : ds[i]? = some d) : lk d = true := by
  induction ds generalizing i with
  | nil => simp at e
  | cons x ds ih =>
    simp at h
    cases i with
    | zero => simp at e; rw [← e]; exact h.1
    | succ i => simp at e; exact ih h.2 e
theorem deps_get {ds : List D} {i : Nat} {d : D} {n : Nat} (h : deps ds ≤ n) (e : ds[i]? = some d) : dep d ≤ n := by
  induction ds generalizing i with
  | nil => simp at e
  | cons x ds ih =>
    simp at h
    cases i with
    | zero => simp at e; rw [← e]; exact h.1
    | succ i => simp at e; exact ih h.2 e
theorem bools_rep_true : ∀ k : Nat, bools (List.replicate k (.bl true)) = some (List.replicate k true)
  | 0 => rfl
  | k + 1 => by rw [List.replicate_succ, List.replicate_succ]; simp [bools_rep_true k]
theorem comp_like {n : Nat} {Q : Sl → Prop} {ds : List D} {g : Nat} {s2 : Sl} (tu : Bool) (hk : lks ds = true) (hd : deps ds ≤ n) (hl : ds.length < 1000) (hQ : Q (.own (List.replicate ds.length (.bl true)))) :
    ∀ (m k : Nat) (acc : List D), k + m = ds.length → acc = List.replicate k (.bl true) → compRec 2 (gN 2) tYesD (le1__law_like (C_like n)) [.v g (seqOf tu ds), .v g (seqOf tu ds), s2] Q (rangeL k m) acc
  | 0, k, acc, h, ea => by
    subst ea
    rw [show k = ds.length by omega]
    exact hQ
  | m + 1, k, acc, h, ea => by
    have hlt : k < ds.length := by omega
    have e1 : ds[k]? = some ds[k] := List.getElem?_eq_getElem hlt
    have ih := comp_like (s2 := s2) (g := g) tu hk hd hl hQ m (k + 1) (acc ++ [.bl true]) (by omega) (by rw [ea, ← List.replicate_succ'])
    have ei : L2.atI ds (k : Int) = some ds[k] := by rw [atI_k, e1]
    have hacc : acc.length < 1000000 := by rw [ea, List.length_replicate]; omega
    simp [le1__law_like_e, ei]
    refine ⟨ds[k], rfl, lks_get hk e1, deps_get hd e1, ?_⟩
    simp [hacc]
    have e3 : (k : Int) + 1 = ((k + 1 : Nat) : Int) := by omega
    rw [e3]
    exact ih
theorem like_step (n : Nat) : Pure (C_like (n + 1)) (t__law_like (C_like n)) N__law_like := by
  rintro ds QD ⟨a, rfl, h1, h2, q⟩
  have sh : lay a = true := lk_lay a h1
  have seqCase : ∀ (tu : Bool) (es : List D), a = seqOf tu es → t__law_like (C_like n) { nx := fun _ => QD (.v 2 .non), rt := QD } (startD N__law_like [a, a]) := by
    intro tu es e
    have hes : es.length < 1000 ∧ lks es = true ∧ deps es ≤ n := by
      subst e
      cases tu <;> simp [seqOf] at h1 h2 <;> exact ⟨h1.1, h1.2, h2⟩
    obtain ⟨e1, e2, e3⟩ := hes
    have key : ∀ g s2 Q, Q (Sl.own (List.replicate es.length (.bl true))) → compRec 2 (gN 2) tYesD (le1__law_like (C_like n)) [.v g a, .v g a, s2] Q (rangeL 0 es.length) [] := by
      intro g s2 Q hQ
      rw [e]
      exact comp_like tu e2 e3 e1 hQ es.length 0 [] (by omega) rfl
    have fin : bools (List.replicate es.length (.bl true)) = some (List.replicate es.length true) := bools_rep_true _
    subst e
    cases tu
    all_goals
      simp [t__law_like, seqOf, isKind] at key ⊢
      refine ⟨by omega, key _ _ _ ?_⟩
      simp [fin]
      exact q
  cases a with
  | tup es => exact seqCase true es rfl
  | lst es => exact seqCase false es rfl
  | non => simpa [t__law_like, isKind] using q
  | bl b => simpa [t__law_like, isKind] using q
  | int i => simpa [t__law_like, isKind] using q
  | str x =>
    simp at sh
    simpa [t__law_like, isKind, sh] using q
  | obj c es => cases h1
  | bag => cases h1
  | cls c => cases h1
  | lat b es => cases h1
  | scr ns => cases h1
  | exn _ _ _ _ => cases h1

theorem like_zero : Pure (C_like 0) (t__law_like fun _ _ => False) N__law_like := by
  rintro ds QD ⟨a, rfl, h1, h2, q⟩
  have sh : lay a = true := lk_lay a h1
  cases a with
  | tup es => simp at h2
  | lst es => simp at h2
  | non => simpa [t__law_like, isKind] using q
  | bl b => simpa [t__law_like, isKind] using q
  | int i => simpa [t__law_like, isKind] using q
  | str x =>
    simp at sh
    simpa [t__law_like, isKind, sh] using q
  | obj c es => cases h1
  | bag => cases h1
  | cls c => cases h1
  | lat b es => cases h1
  | scr ns => cases h1
  | exn _ _ _ _ => cases h1
/-! ### rolled -/
theorem cutG_init (ds : List D) (d : D) : cutG (ds ++ [d]) none (some (-1)) = ds := by
  have e : HT.sIx (ds.length + 1) (ds.length + 1) (some (-1)) = ds.length := by
    simp [HT.sIx]
    omega
  unfold cutG
  rw [List.length_append, List.length_singleton, e]
  simp [HT.sIx]
theorem cutG_nil (h : Option Int) : cutG ([] : List D) none h = [] := by simp [cutG]
end PR
/-! P3: spans that may be none; the tail of a layout. -/
namespace PR
open PySem PySem.Spec PyProof.Rows L2 DL
theorem purex_check_span : PureX X_check_span tx_check_span N_check_span := by
  rintro ds QD QE ⟨s, rfl, h1, h2⟩
  cases hs : s.ok with
  | true =>
    have := h1 hs
    simpa [tx_check_span, hs] using this
  | false =>
    have := h2 hs
    simpa [tx_check_span, hs] using this
theorem purex_carried : PureX X_carried tx_carried N_carried := by
  rintro ds QD QE ⟨ps, s, rfl, hl, h1, h2⟩
  simp [tx_carried]
  refine ⟨s, rfl, fun hs => ?_, h2⟩
  have := @use_carried_in (fun sl => sto sl = true ∧ QD (out sl)) ps s false hl
  rw [show D.lst (pcsD ps) = seqOf false (pcsD ps) from rfl]
  simp
  rw [use_carried_in false hl]
  have := h1 hs
  simpa using this
theorem pure_Layout_tail : Pure C_Layout_tail t_Layout_tail N_Layout_tail := by
  rintro ds QD ⟨ps, rfl, ⟨pre, a, rfl, hc, ha⟩, q⟩
  simp at q
  simpa [t_Layout_tail, layD, pcsD, Pc.d_old] using q
theorem pure_Layout_shift : Pure C_Layout_shift t_Layout_shift N_Layout_shift := by
  rintro ds QD ⟨ps, rfl, ⟨pre, a, rfl, hc, ha⟩, hl, q⟩
  simp at q hl
  have ei : immAll (pcsD pre) = true := by simp
  have key : ∀ QQ : Sl → Prop, QQ (.own ((pre.map fun p => p.size.getD 0).map D.int)) → compRec 2 (gN 1) tYesD le1_Layout_shift [.v 1 (.obj 0 [.lst (pcsD (pre ++ [.old a none]))]), .un] QQ (pcsD pre) [] := fun QQ hQ => by
    refine comp_map Pc.d (fun p => some (.int (p.size.getD 0))) (xs := pre) (by omega) (fun p hp acc C ha hC => ?_) ?_
    · obtain ⟨s, hs⟩ := size_closed (hc p hp).2
      rw [hs] at hC
      simpa [le1_Layout_shift_e, ha, hs] using hC
    · simpa [List.filterMap_eq_map', Function.comp_def] using hQ
  have es : (pre.map fun p => p.size.getD 0).sum = tot pre := by
    clear q hl ei key hc
    induction pre with
    | nil => rfl
    | cons p pre ih => simp [tot, ih]
  have e2 : intsD (pre.map (D.int ∘ fun p => p.size.getD 0)) = some (pre.map fun p => p.size.getD 0) := by
    rw [← List.map_map]
    exact intsD_map _
  simp [t_Layout_shift, layD, cutG_init, ei]
  simp only [pcsD_app, pcsD_cons, pcsD_nil] at key
  refine key _ ?_
  simp [e2, es, Pc.d_old]
  exact q
end PR
/-! Q11: what becomes of any span, by listed rows. -/
namespace PR
def fromL (a : Int) : Option Lab → Bool
  | none => false
  | some x => decide (a ≤ x.1)
def uptoL (b : Int) : Option Lab → Bool
  | none => true
  | some x => decide (x.2 ≤ b)
theorem filter_to {f : Nat → Bool} : ∀ (n r : Nat), r ≤ n → (∀ k, k < n → (f k = true ↔ k < r)) → (List.range n).filter f = List.range r
  | 0, r, hr, h => by
    have : r = 0 := by omega
    subst this
    rfl
  | n + 1, r, hr, h => by
    rw [List.range_succ, List.filter_append]
    by_cases e : r = n + 1
    · subst e
      rw [filter_to n n (Nat.le_refl _) fun k hk => by rw [h k (by omega)]; omega]
      have : f n = true := (h n (by omega)).mpr (by omega)
      simp [this, List.range_succ]
    · rw [filter_to n r (by omega) fun k hk => h k (by omega)]
      have : f n = false := by
        cases hf : f n with
        | false => rfl
        | true => have := (h n (by omega)).mp hf; omega
      simp [this]
theorem filter_from {n : Nat} {f : Nat → Bool} {r : Int} (h0 : 0 ≤ r) (hr : r < n) (h : ∀ k : Nat, k < n → (f k = true ↔ r ≤ k)) : (((List.range n).filter f).map fun (k : Nat) => (k : Int)).head? = some r := by
  obtain ⟨m, rfl⟩ : ∃ m : Nat, r = m := ⟨r.toNat, by omega⟩
  have e : (List.range n).filter f = List.range' m (n - 1 - m + 1) := filter_range_int (lo := m) (hi := n - 1) (fun k hk => by rw [h k hk]; omega) (by omega) (by omega)
  rw [e, List.range'_succ]
  rfl
theorem rw_mem {ps : List Pc} (h : Whole ps) (b : Int) {i : Int} (hi : 0 ≤ i) : uptoL b (lab ps i) = true ↔ i < rwF ps b := by
  have t2 := (cntF_ok true (b + 1) ps h.lay h.good).iff i hi
  unfold rwF
  have : (i < cntF true ps (b + 1)) ↔ ¬ (cntF true ps (b + 1) ≤ i) := by omega
  rw [this, ← t2]
  cases lab ps i with
  | none => simp [uptoL, overL]
  | some x => simp [uptoL, overL, sel]; omega
theorem rb_memL {ps : List Pc} (h : Whole ps) (a : Int) {i : Int} (hi : 0 ≤ i) : fromL a (lab ps i) = true ↔ rbF ps a ≤ i := by
  rw [← rb_mem h a hi]
  cases lab ps i with
  | none => simp [fromL]
  | some x => simp [fromL]
section
variable {rows : List (Option Lab)} {ps : List Pc} {v : Int}
theorem Lays.last_lab (L : Lays rows ps v) : lab ps ((rows.length : Int) - 1) = some (v, v) := by
  have := L.tl.1
  rw [L.tl.2 _ (by omega)]
  simp
  omega
theorem Lays.rb_far (L : Lays rows ps v) {a : Int} (ha : v < a) : rbF ps a = rows.length - 1 + a - v := by
  have t1 := L.tl.1
  have n0 := rb_nn L.wh a
  have h1 := (rb_memL L.wh a (i := (rows.length : Int) - 1 + a - v) (by omega)).mp (by rw [L.tl.2 _ (by omega)]; simp [fromL]; omega)
  have h2 := rb_memL L.wh a (i := (rows.length : Int) - 1 + a - v - 1) (by omega)
  rw [L.tl.2 _ (by omega)] at h2
  simp [fromL] at h2
  omega
theorem Lays.rb_near (L : Lays rows ps v) {a : Int} (ha : a ≤ v) : rbF ps a < rows.length := by
  have t1 := L.tl.1
  have h1 := (rb_memL L.wh a (i := (rows.length : Int) - 1) (by omega)).mp (by rw [L.last_lab]; simp [fromL]; omega)
  omega
theorem Lays.rw_far (L : Lays rows ps v) {b : Int} (hb : v ≤ b) : rwF ps b = rows.length + b - v := by
  have t1 := L.tl.1
  have n0 := rw_nn L.wh b
  have h1 := (rw_mem L.wh b (i := (rows.length : Int) - 1 + b - v) (by omega)).mp (by rw [L.tl.2 _ (by omega)]; simp [uptoL]; omega)
  have h2 := rw_mem L.wh b (i := (rows.length : Int) + b - v) (by omega)
  rw [L.tl.2 _ (by omega)] at h2
  simp [uptoL] at h2
  omega
theorem Lays.rw_near (L : Lays rows ps v) {b : Int} (hb : b < v) : rwF ps b < rows.length := by
  have t1 := L.tl.1
  have h1 := rw_mem L.wh b (i := (rows.length : Int) - 1) (by omega)
  rw [L.last_lab] at h1
  simp [uptoL] at h1
  omega
theorem Lays.inside (L : Lays rows ps v) (f : Option Lab → Bool) {g : Nat → Bool} (h : ∀ k : Nat, k < rows.length → f (lab ps k) = g k) : insideL (rows.map f) = ((List.range rows.length).filter g).map fun (k : Nat) => (k : Int) := by
  unfold insideL
  rw [List.length_map]
  congr 1
  refine List.filter_congr fun k hk => ?_
  have hk := List.mem_range.mp hk
  rw [List.getElem?_map, L.held k hk]
  exact h k hk
/-- the first row of a span, by listed rows -/
theorem Lays.rb_due (L : Lays rows ps v) (a : Int) : rbF ps a = (insideL (rows.map (fromL a))).head?.getD (rows.length - 1 + a - v) := by
  rw [L.inside (fromL a) (g := fun k => decide (rbF ps a ≤ k)) fun k hk => by
    rw [Bool.eq_iff_iff, rb_memL L.wh a (by omega)]; simp]
  by_cases ha : a ≤ v
  · rw [filter_from (rb_nn L.wh a) (L.rb_near ha) (fun k hk => by simp)]
    rfl
  · have e : (List.range rows.length).filter (fun (k : Nat) => decide (rbF ps a ≤ (k : Int))) = [] := by
      rw [List.filter_eq_nil_iff]
      intro k hk
      have hk := List.mem_range.mp hk
      have := L.rb_far (a := a) (by omega)
      simp
      omega
    rw [e, L.rb_far (by omega)]
    rfl
/-- the last row of a span, by listed rows -/
theorem Lays.rw_due (L : Lays rows ps v) (b : Int) : rwF ps b - 1 = if v ≤ b then rows.length - 1 + b - v else (-1 :: insideL (rows.map (uptoL b))).getLast?.getD 0 := by
  by_cases hb : v ≤ b
  · rw [if_pos hb, L.rw_far hb]
    omega
  · rw [if_neg hb, L.inside (uptoL b) (g := fun k => decide ((k : Int) < rwF ps b)) fun k hk => by
      rw [Bool.eq_iff_iff, rw_mem L.wh b (by omega)]; simp]
    have n0 := rw_nn L.wh b
    have n1 := L.rw_near (b := b) (by omega)
    obtain ⟨r, hr⟩ : ∃ r : Nat, rwF ps b = r := ⟨(rwF ps b).toNat, by omega⟩
    rw [hr, filter_to rows.length r (by omega) fun k hk => by simp]
    cases r with
    | zero => simp
    | succ r =>
      rw [List.range_succ, List.map_append, ← List.cons_append, List.map_cons, List.map_nil, List.getLast?_append]
      simp
/-- carried, by listed rows -/
def carDue (rows : List (Option Lab)) (v : Int) (s : Span) : Option Span :=
  let first := (insideL (rows.map (fromL s.1))).head?.getD (rows.length - 1 + s.1 - v)
  match s.2 with
  | none => some (first, none)
  | some b =>
    let e := if v ≤ b then rows.length - 1 + b - v else (-1 :: insideL (rows.map (uptoL b))).getLast?.getD 0
    if first ≤ e then some (first, some e) else none
theorem Lays.car_due (L : Lays rows ps v) (s : Span) : carDue rows v s = carF ps s := by
  obtain ⟨a, b⟩ := s
  cases b with
  | none =>
    simp only [carDue, carF, ← L.rb_due]
  | some b =>
    simp only [carDue, carF, ← L.rb_due, ← L.rw_due]
    by_cases h : rwF ps b - 1 < rbF ps a
    · rw [if_pos h, if_neg (by omega)]
    · rw [if_neg h, if_pos (by omega)]
theorem Lays.far (L : Lays rows ps v) {f w : Int} (hf : v < f) (hw : 0 ≤ w) : carF ps (f, some (f + w)) = some (f + (rows.length - 1 - v), some (f + (rows.length - 1 - v) + w)) := by
  have r1 := L.rb_far hf
  have r2 := L.rw_far (b := f + w) (by omega)
  simp only [carF]
  rw [if_neg (by omega)]
  congr 2
  · omega
  · congr 1; omega
theorem Lays.farN (L : Lays rows ps v) {f : Int} (hf : v < f) : carF ps (f, none) = some (f + (rows.length - 1 - v), none) := by
  have r1 := L.rb_far hf
  simp only [carF]
  congr 2
  omega
end
/-- old rows that follow -/
def olds (v : Int) (n : Nat) : List (Option Lab) := (List.range n).map fun (k : Nat) => some (v + (k : Int), v + (k : Int))
theorem olds_len (v : Int) (n : Nat) : (olds v n).length = n := by simp [olds]
theorem Lays.more {rows : List (Option Lab)} {ps : List Pc} {v : Int} (L : Lays rows ps v) (n : Nat) : Lays (rows ++ olds (v + 1) n) ps (v + n) := by
  have t1 := L.tl.1
  refine ⟨L.wh, L.nr, ?_, fun k hk => ?_, by rw [List.length_append]; omega, fun i hi => ?_⟩
  · cases n with
    | zero => simpa [olds] using L.lst
    | succ n =>
      simp only [olds, List.range_succ, List.map_append]
      rw [← List.append_assoc]
      simp [List.getLast?_append]
      omega
  · rw [List.length_append, olds_len] at hk
    by_cases e : k < rows.length
    · rw [List.getElem?_append_left e]
      exact L.held k e
    · rw [List.getElem?_append_right (by omega), L.tl.2 k (by omega)]
      simp only [olds, List.getElem?_map]
      rw [List.getElem?_range (by omega)]
      simp
      omega
  · rw [List.length_append, olds_len] at hi ⊢
    rw [L.tl.2 i (by omega)]
    simp
    omega
end PR
/-! Q12: listed rows with one row more, or one less. -/
namespace PR
theorem take_lt {α : Type} {xs : List α} {i k : Nat} {x : α} (h : (xs.take i)[k]? = some x) : k < i ∧ xs[k]? = some x := by
  rw [List.getElem?_take] at h
  split at h
  · exact ⟨by assumption, h⟩
  · cases h
theorem GRows.ole_at {rows : List (Option Lab)} {v : Int} (h : GRows rows v) {i j : Nat} {x y : Option Lab} (hij : i < j) (hx : rows[i]? = some x) (hy : rows[j]? = some y) : ole x y := by
  obtain ⟨hi, rfl⟩ := List.getElem?_eq_some_iff.mp hx
  obtain ⟨hj, rfl⟩ := List.getElem?_eq_some_iff.mp hy
  exact List.pairwise_iff_getElem.mp h.pw i j hi hj hij
theorem last_drop {α : Type} {xs : List α} {x : α} {j : Nat} (h : xs.getLast? = some x) (hj : j < xs.length) (ys : List α) : (ys ++ xs.drop j).getLast? = some x := by
  have e : xs.take j ++ xs.drop j = xs := List.take_append_drop j xs
  have ne : xs.drop j ≠ [] := by
    intro z
    have := congrArg List.length z
    simp at this
    omega
  rw [← e, List.getLast?_append] at h
  rw [List.getLast?_append]
  cases h2 : (xs.drop j).getLast? with
  | none => exact absurd (List.getLast?_eq_none_iff.mp h2) ne
  | some z => rw [h2] at h; simpa using h
/-- a row m between the first i rows and those from j on -/
theorem GRows.put {rows : List (Option Lab)} {v : Int} (h : GRows rows v) {i j : Nat} {ms : List (Option Lab)} (hij : i ≤ j) (hj : j < rows.length) (hm : ∀ m ∈ ms, (∀ k x, k < i → rows[k]? = some x → ole x m) ∧ (∀ k x, j ≤ k → rows[k]? = some x → ole m x) ∧ (∀ l, m = some l → labOk l)) (hp : ms.Pairwise ole) : GRows (rows.take i ++ ms ++ rows.drop j) v := by
  have st : ∀ {x}, x ∈ rows.take i → ∃ k, k < i ∧ rows[k]? = some x := fun {x} hx => by
    obtain ⟨k, hk⟩ := List.mem_iff_getElem?.mp hx
    exact ⟨k, take_lt hk⟩
  have sd : ∀ {x}, x ∈ rows.drop j → ∃ k, j ≤ k ∧ rows[k]? = some x := fun {x} hx => by
    obtain ⟨k, hk⟩ := List.mem_iff_getElem?.mp hx
    rw [List.getElem?_drop] at hk
    exact ⟨j + k, by omega, hk⟩
  refine ⟨?_, fun x hx l e => ?_, last_drop h.lst hj _⟩
  · rw [List.pairwise_append, List.pairwise_append]
    refine ⟨⟨h.pw.sublist (List.take_sublist _ _), hp, fun x hx m hm' => ?_⟩, h.pw.sublist (List.drop_sublist _ _), fun x hx y hy => ?_⟩
    · obtain ⟨k, k1, k2⟩ := st hx
      exact (hm m hm').1 k x k1 k2
    · obtain ⟨k', k1', k2'⟩ := sd hy
      rcases List.mem_append.mp hx with hx | hx
      · obtain ⟨k, k1, k2⟩ := st hx
        exact h.ole_at (by omega) k2 k2'
      · exact (hm x hx).2.1 k' y k1' k2'
  · rcases List.mem_append.mp hx with hx | hx
    · rcases List.mem_append.mp hx with hx | hx
      · exact h.ok x (List.mem_of_mem_take hx) l e
      · exact (hm x hx).2.2 l e
    · exact h.ok x (List.mem_of_mem_drop hx) l e
theorem midL_ole {x y : Option Lab} (h : ole x y) (hx : ∀ l, x = some l → labOk l) (hy : ∀ l, y = some l → labOk l) : ole x (midL x y) ∧ ole (midL x y) y ∧ (∀ l, midL x y = some l → labOk l) := by
  cases x with
  | none => exact ⟨trivial, trivial, fun l e => by cases e⟩
  | some x => cases y with
    | none => exact h.elim
    | some y =>
      obtain ⟨a1, a2, a3⟩ := h
      obtain ⟨b1, b2⟩ := hx x rfl
      obtain ⟨c1, c2⟩ := hy y rfl
      refine ⟨⟨Int.le_refl _, a2, fun e1 e2 => ?_⟩, ⟨a1, Int.le_refl _, fun e1 e2 => ?_⟩, fun l e => ?_⟩
      · have e2 : x.1 = y.2 := e2
        have := a3 e1 (by omega)
        omega
      · have e1 : x.1 = y.2 := e1
        have := a3 (by omega) (by omega)
        show x.1 < y.1
        omega
      · have e : some (x.1, y.2) = some l := e
        injection e with e
        subst e
        exact ⟨b1, by show x.1 ≤ y.2; omega⟩
theorem ole_self {x : Option Lab} (h : ∀ a, x ≠ some (a, a)) : ole x x := by
  cases x with
  | none => trivial
  | some x =>
    obtain ⟨a, b⟩ := x
    refine ⟨Int.le_refl _, Int.le_refl _, fun e _ => ?_⟩
    have e : a = b := e
    subst e
    exact absurd rfl (h a)
theorem GRows.mid {rows : List (Option Lab)} {v : Int} (h : GRows rows v) {i j : Nat} {x y : Option Lab} (hij : i < j) (hj : j < rows.length) (hx : rows[i]? = some x) (hy : rows[j]? = some y) : GRows (rows.take (i + 1) ++ [midL x y] ++ rows.drop j) v := by
  obtain ⟨m1, m2, m3⟩ := midL_ole (h.ole_at hij hx hy) (h.ok x (List.mem_of_getElem? hx)) (h.ok y (List.mem_of_getElem? hy))
  refine h.put (by omega) hj (fun m hm => ?_) (List.pairwise_singleton _ _)
  rw [List.mem_singleton.mp hm]
  refine ⟨fun k z hk hz => ?_, fun k z hk hz => ?_, m3⟩
  · by_cases e : k = i
    · subst e
      rw [hx] at hz
      injection hz with hz
      rw [← hz]
      exact m1
    · exact ole_trans (h.ole_at (by omega) hz hx) m1
  · by_cases e : k = j
    · subst e
      rw [hy] at hz
      injection hz with hz
      rw [← hz]
      exact m2
    · exact ole_trans m2 (h.ole_at (by omega) hy hz)
/-- nearly the same rows -/
def Near (rows rows' : List (Option Lab)) (v : Int) : Prop := GRows rows' v ∧ rows.length - 1 ≤ rows'.length ∧ rows'.length ≤ rows.length + 1
section
variable {rows : List (Option Lab)} {v : Int} (h : GRows rows v) {i : Nat}
include h
theorem GRows.near0 (hi : i + 1 < rows.length) : Near rows (rows.take i ++ rows.drop (i + 1)) v := by
  have := h.put (i := i) (j := i + 1) (ms := []) (by omega) hi (fun m hm => by cases hm) List.Pairwise.nil
  rw [List.append_nil] at this
  refine ⟨this, ?_, ?_⟩ <;> simp <;> omega
theorem GRows.near1 (hi : i < rows.length) {x : Option Lab} (hx : rows[i]? = some x) (hn : ∀ a, x ≠ some (a, a)) : Near rows (rows.take i ++ [x, x] ++ rows.drop (i + 1)) v := by
  have hs := ole_self hn
  have e : rows.take i ++ [x, x] ++ rows.drop (i + 1) = rows.take i ++ [x] ++ rows.drop i := by
    rw [List.drop_eq_getElem_cons hi]
    have : rows[i] = x := by rw [List.getElem?_eq_getElem hi] at hx; injection hx
    rw [this]
    simp
  rw [e]
  refine ⟨h.put (by omega) hi (fun m hm => ?_) (List.pairwise_singleton _ _), ?_, ?_⟩
  · rw [List.mem_singleton.mp hm]
    refine ⟨fun k z hk hz => h.ole_at hk hz hx, fun k z hk hz => ?_, h.ok x (List.mem_of_getElem? hx)⟩
    by_cases e : k = i
    · subst e
      rw [hx] at hz
      injection hz with hz
      rw [← hz]
      exact hs
    · exact h.ole_at (by omega) hx hz
  · simp; omega
  · simp; omega
theorem GRows.near1' (hi : i < rows.length) {x : Option Lab} (hx : rows[i]? = some x) : Near rows (rows.take i ++ [x] ++ rows.drop (i + 1)) v := by
  have e : rows.take i ++ [x] ++ rows.drop (i + 1) = rows := by
    have : rows[i] = x := by rw [List.getElem?_eq_getElem hi] at hx; injection hx
    rw [← this]
    simp
  rw [e]
  exact ⟨h, by omega, by omega⟩
theorem GRows.near2 : Near rows (none :: rows) v := by
  have h0 : 0 < rows.length := by
    have := h.lst
    cases rows with
    | nil => cases this
    | cons x xs => simp
  have := h.put (i := 0) (j := 0) (ms := [none]) (by omega) h0 (fun m hm => ?_) (List.pairwise_singleton _ _)
  · simp at this
    exact ⟨this, by simp; omega, by simp⟩
  · rw [List.mem_singleton.mp hm]
    exact ⟨fun k x hk => by omega, fun k x hk hx => trivial, fun l e => by cases e⟩
/-- a row between row i - 1 and row i + g, in the place of g rows -/
theorem GRows.near3 {g : Nat} (hg : g ≤ 1) (hi : i + g < rows.length) {m : Option Lab} (hm : m = if i = 0 then none else midL ((rows[i - 1]?).getD none) ((rows[i + g]?).getD none)) : Near rows (rows.take i ++ [m] ++ rows.drop (i + g)) v := by
  refine ⟨?_, by simp; omega, by simp; omega⟩
  by_cases e : i = 0
  · subst e
    rw [if_pos rfl] at hm
    subst hm
    refine h.put (by omega) hi (fun m hm => ?_) (List.pairwise_singleton _ _)
    rw [List.mem_singleton.mp hm]
    exact ⟨fun k x hk => by omega, fun k x hk hx => trivial, fun l e => by cases e⟩
  · rw [if_neg e] at hm
    subst hm
    have := h.mid (i := i - 1) (j := i + g) (by omega) hi (List.getElem?_eq_getElem (by omega)) (List.getElem?_eq_getElem hi)
    rw [List.getElem?_eq_getElem (show i - 1 < rows.length by omega), List.getElem?_eq_getElem hi]
    rw [show i - 1 + 1 = i by omega] at this
    exact this
end
end PR
/-! PL2: rows rolled into pieces. -/
namespace PR
open PySem PySem.Spec PyProof.Rows L2 DL
theorem loop_rolled {E : DEnds} {g : Nat} {s0 : Sl} (hg : g = 1 ∨ g = 2) : ∀ (rows : List (Option Lab)) (found : List Pc) (s2 s3 s4 s5 s6 : Sl), (∀ q, found.getLast? = some q → q.isOpen = false) → found.length + rows.length < 1000 →
    (∀ s2 s3 s4 s5 s6, E.nx [s0, .v 2 (.lst (pcsD (rows.foldl rollF found))), s2, s3, s4, s5, s6]) → forRec g (gN 2) lb1__law_rolled E (rows.map oL) [s0, .v 2 (.lst (pcsD found)), s2, s3, s4, s5, s6]
  | [], found, s2, s3, s4, s5, s6, _, _, h => by simpa using h s2 s3 s4 s5 s6
  | x :: rows, found, s2, s3, s4, s5, s6, hf, hl, h => by
    obtain ⟨r, r1, r2, r3, _⟩ := rollF_last found x
    have hl' : (rollF found x).length + rows.length < 1000 := by simp at hl; omega
    have ih := fun s2 s3 s4 s5 s6 => loop_rolled (E := E) (g := g) (s0 := s0) hg rows (rollF found x) s2 s3 s4 s5 s6 (by rw [r1]; intro q z; cases z; exact r2) hl' (by simpa using h)
    have hn : found.length + 1 ≤ 1000000 := by simp at hl; omega
    rcases List.eq_nil_or_concat found with rfl | ⟨init, q, rfl⟩
    · cases x with
      | none =>
        simp [lb1__law_rolled_e, up_g hg (show D.imm .non = true from rfl), cutG_nil]
        simpa [rollF, Pc.d_top] using ih _ _ _ _ _
      | some x =>
        obtain ⟨l, k⟩ := x
        by_cases e : l = k
        · subst e
          simp [lb1__law_rolled_e, up_g hg, labD]
          simpa [rollF, Pc.d_old, labD] using ih _ _ _ _ _
        · simp [lb1__law_rolled_e, up_g hg, labD, e, cutG, HT.sIx]
          simpa [rollF, Pc.d_new, e, labD] using ih _ _ _ _ _
    · have hq : q.isOpen = false := hf q (by simp)
      have hn2 : init.length + 1 ≤ 1000000 := by simp at hn; omega
      have hn3 : init.length + 2 ≤ 1000000 := by simp at hn; omega
      have hn4 : init.length ≤ 999999 := by omega
      have hn5 : init.length ≤ 999998 := by simp at hl; omega
      cases x with
      | none =>
        cases q with
        | top n =>
          simp [lb1__law_rolled_e, up_g hg (show D.imm .non = true from rfl), cutG_init, Pc.d_top, hn2, hn4]
          simpa [rollF, Pc.d_top] using ih _ _ _ _ _
        | old a b => cases b with
          | none => cases hq
          | some b =>
            simp [lb1__law_rolled_e, up_g hg (show D.imm .non = true from rfl), cutG_init, Pc.d_old, hn2, hn3, hn4, hn5]
            simpa [rollF, Pc.d_top, Pc.d_old] using ih _ _ _ _ _
        | new a b n =>
          simp [lb1__law_rolled_e, up_g hg (show D.imm .non = true from rfl), cutG_init, Pc.d_new, hn2, hn3, hn4, hn5]
          simpa [rollF, Pc.d_top, Pc.d_new] using ih _ _ _ _ _
      | some x =>
        obtain ⟨l, k⟩ := x
        by_cases e : l = k
        · subst e
          cases q with
          | top n =>
            simp [lb1__law_rolled_e, up_g hg, cutG_init, Pc.d_top, hn2, hn3, hn4, hn5, labD]
            simpa [rollF, Pc.d_top, Pc.d_old, labD] using ih _ _ _ _ _
          | old a b => cases b with
            | none => cases hq
            | some b =>
              by_cases e2 : b + 1 = l
              · simp [lb1__law_rolled_e, up_g hg, cutG_init, Pc.d_old, hn2, hn3, hn4, hn5, labD, e2]
                simpa [rollF, Pc.d_old, labD, e2] using ih _ _ _ _ _
              · simp [lb1__law_rolled_e, up_g hg, cutG_init, Pc.d_old, hn2, hn3, hn4, hn5, labD, e2]
                simpa [rollF, Pc.d_old, labD, e2] using ih _ _ _ _ _
          | new a b n =>
            simp [lb1__law_rolled_e, up_g hg, cutG_init, Pc.d_new, hn2, hn3, hn4, hn5, labD]
            simpa [rollF, Pc.d_new, Pc.d_old, labD] using ih _ _ _ _ _
        · cases q with
          | top n =>
            simp [lb1__law_rolled_e, up_g hg, cutG_init, Pc.d_top, hn2, hn3, hn4, hn5, labD, e, show cutG [D.str (Str.ofString "top"), .int n] none (some 3) = [D.str (Str.ofString "top"), .int n] from rfl, show cutG [D.str (Str.ofString "new"), .int l, .int k, .int 1] none (some 3) = [D.str (Str.ofString "new"), .int l, .int k] from rfl]
            simpa [rollF, Pc.d_top, Pc.d_new, labD, e] using ih _ _ _ _ _
          | old a b => cases b with
            | none => cases hq
            | some b =>
              simp [lb1__law_rolled_e, up_g hg, cutG_init, Pc.d_old, hn2, hn3, hn4, hn5, labD, e, show cutG [D.str (Str.ofString "old"), .int a, .int b] none (some 3) = [D.str (Str.ofString "old"), .int a, .int b] from rfl, show cutG [D.str (Str.ofString "new"), .int l, .int k, .int 1] none (some 3) = [D.str (Str.ofString "new"), .int l, .int k] from rfl]
              simpa [rollF, Pc.d_old, Pc.d_new, labD, e] using ih _ _ _ _ _
          | new a b n =>
            by_cases e2 : a = l ∧ b = k
            · obtain ⟨rfl, rfl⟩ := e2
              simp [lb1__law_rolled_e, up_g hg, cutG_init, Pc.d_new, hn2, hn3, hn4, hn5, labD, e, show cutG [D.str (Str.ofString "new"), .int a, .int b, .int n] none (some 3) = [D.str (Str.ofString "new"), .int a, .int b] from rfl, show cutG [D.str (Str.ofString "new"), .int a, .int b, .int 1] none (some 3) = [D.str (Str.ofString "new"), .int a, .int b] from rfl]
              simpa [rollF, Pc.d_new, labD, e] using ih _ _ _ _ _
            · simp [lb1__law_rolled_e, up_g hg, cutG_init, Pc.d_new, hn2, hn3, hn4, hn5, labD, e, e2, show cutG [D.str (Str.ofString "new"), .int a, .int b, .int n] none (some 3) = [D.str (Str.ofString "new"), .int a, .int b] from rfl, show cutG [D.str (Str.ofString "new"), .int l, .int k, .int 1] none (some 3) = [D.str (Str.ofString "new"), .int l, .int k] from rfl]
              simpa [rollF, Pc.d_new, labD, e, e2] using ih _ _ _ _ _
theorem pure__law_rolled : Pure C__law_rolled t__law_rolled N__law_rolled := by
  rintro ds QD ⟨rows, rfl, ⟨v, hv⟩, hl, q⟩
  obtain ⟨init, a, b, e1, e2⟩ := fold_last rows [] v hv
  have e3 : (pcsD (rows.foldl rollF [])) = pcsD init ++ [.tup [.str "old", .int a, .int b]] := by rw [e1]; simp [Pc.d_old]
  have hn : init.length + 1 ≤ 1000000 := by
    rw [e1] at e2
    simp at e2
    omega
  have key := fun (g : Nat) s0 (hg : g = 1 ∨ g = 2) => loop_rolled (E := { nx := fun τ => (dRet (dOp fAdd (dSl (dVar 1) oNone (oSome (dNeg (dK (.int 1))))) (dLst (aCons (dTup (aCons (dK (.str "old")) (aCons (dIxK 1 (dIxL (dVar 1))) (aCons (dK .non) aNil)))) aNil)))) { nx := fun _ => QD (.v 2 .non), rt := QD } τ, rt := QD }) (g := g) (s0 := s0) hg rows [] .un .un .un .un .un (by simp) (by simpa using hl) (fun s2 s3 s4 s5 s6 => by
    rw [e3]
    simp [cutG_init, hn, show init.length ≤ 999999 by omega]
    simpa [roll, e1, rollE, Pc.d_old] using q)
  simp [t__law_rolled]
  exact key _ _ (by simp)
end PR
/-! PL3: rows of any kind. -/
namespace PR
open PySem PySem.Spec PyProof.Rows L2 DL
theorem use_of4 {a b c d : Int} {Q : Sl → Prop} (h : ∀ i : Int, (i = a ∨ i = b ∨ i = c ∨ i = d) → Q (.v 2 (.int i))) : C_of [.bag, .lst [.int a, .int b, .int c, .int d]] Q :=
  ⟨rfl, by simp, by simp, fun x hx => by
    simp at hx
    rcases hx with rfl | rfl | rfl | rfl
    · exact h a (.inl rfl)
    · exact h b (.inr (.inl rfl))
    · exact h c (.inr (.inr (.inl rfl)))
    · exact h d (.inr (.inr (.inr rfl)))⟩
theorem use_pull {n : Int} {Q : Sl → Prop} (h0 : 0 < n) (h1 : n < 1073741824) (h : ∀ k : Int, 0 ≤ k → k < n → Q (.v 2 (.int k))) : C_pull [.bag, .int n] Q := ⟨h0, h1, h⟩
abbrev oldsD (v : Int) (n : Nat) : List (Option Lab) := (rangeI v n).map fun i => some (i, i)
theorem comp_rows {Q : Sl → Prop} {s0 s1 s2 s3 s4 s5 s6 s7 s8 : Sl} {te : DTE} (hte : te = le1__law_any_rows ∨ te = le3__law_any_rows) : ∀ (n : Nat) (v : Int) (acc : List D), acc.length + n < 1000000 → Q (.own (acc ++ (oldsD v n).map oL)) →
    compRec 2 (gN 8) tYesD te [s0, s1, s2, s3, s4, s5, s6, s7, s8] Q (rangeL v n) acc
  | 0, v, acc, _, h => by simpa [rangeI] using h
  | n + 1, v, acc, hl, h => by
    have ih := comp_rows (s0 := s0) (s1 := s1) (s2 := s2) (s3 := s3) (s4 := s4) (s5 := s5) (s6 := s6) (s7 := s7) (s8 := s8) (Q := Q) hte n (v + 1) (acc ++ [labD (v, v)]) (by simp; omega) (by simpa [rangeI] using h)
    have ha : acc.length < 1000000 := by omega
    rcases hte with rfl | rfl
    · simp [le1__law_any_rows_e, ha]
      simpa [labD] using ih
    · simp [le3__law_any_rows_e, ha]
      simpa [labD] using ih
/-- how far the rows have come behind j turns -/
structure RSt (t j : Nat) (rows : List (Option Lab)) (low high last : Int) : Prop where
  ex : ∃ ls : List Lab, rows = List.replicate t none ++ ls.map some ∧ ls.length ≤ 3 * j ∧ ls.Pairwise lle ∧ (∀ x ∈ ls, labOk x) ∧ (∀ x ∈ ls, x.1 ≤ low ∧ x.2 ≤ high ∧ (x.1 = x.2 → x.1 ≤ last))
  b : 0 ≤ low ∧ 0 ≤ high ∧ -1 ≤ last ∧ low ≤ 6 * j ∧ high ≤ 6 * j ∧ last ≤ 6 * j
theorem RSt.old {t j : Nat} {rows : List (Option Lab)} {low high last d e : Int} (h : RSt t j rows low high last) (hd : 0 ≤ d ∧ d ≤ 2) (he : 0 ≤ e ∧ e ≤ 2) {f : Int} (hf : f = max (max low high) (last + 1) + d) :
    RSt t (j + 1) (rows ++ oldsD f (e + 1).toNat) (f + e) (f + e) (f + e) := by
  obtain ⟨⟨ls, h1, h2, h3, h4, h5⟩, h6⟩ := h
  refine ⟨⟨ls ++ (rangeI f (e + 1).toNat).map fun i => (i, i), ?_, ?_, ?_, ?_, ?_⟩, ?_⟩
  · rw [h1]
    simp [oldsD, Function.comp_def]
  · rw [List.length_append, List.length_map, rangeI_len]
    omega
  · rw [List.pairwise_append]
    refine ⟨h3, olds_pw _ _, fun x hx y hy => ?_⟩
    obtain ⟨i, hi, rfl⟩ := List.mem_map.mp hy
    have hi := (rangeI_mem _ _ _).mp hi
    obtain ⟨a1, a2, a3⟩ := h5 x hx
    refine ⟨by show x.1 ≤ i; omega, by show x.2 ≤ i; omega, fun e1 _ => ?_⟩
    have := a3 e1
    show x.1 < i
    omega
  · intro x hx
    rcases List.mem_append.mp hx with hx | hx
    · exact h4 x hx
    · obtain ⟨i, hi, rfl⟩ := List.mem_map.mp hx
      have hi := (rangeI_mem _ _ _).mp hi
      exact ⟨by show 0 ≤ i; omega, by show i ≤ i; omega⟩
  · intro x hx
    rcases List.mem_append.mp hx with hx | hx
    · obtain ⟨a1, a2, a3⟩ := h5 x hx
      exact ⟨by omega, by omega, fun e1 => by have := a3 e1; omega⟩
    · obtain ⟨i, hi, rfl⟩ := List.mem_map.mp hx
      have hi := (rangeI_mem _ _ _).mp hi
      exact ⟨by show i ≤ _; omega, by show i ≤ _; omega, fun _ => by show i ≤ _; omega⟩
  · omega
theorem RSt.new {t j : Nat} {rows : List (Option Lab)} {low high last d e : Int} {n : Nat} (h : RSt t j rows low high last) (hd : 0 ≤ d ∧ d ≤ 2) (he : 0 ≤ e ∧ e ≤ 3) (hn : n ≤ 3) {low' high' : Int} (hl : low' = low + d) (hh : high' = max high (low' + 1) + e) :
    RSt t (j + 1) (rows ++ List.replicate n (some (low', high'))) low' high' last := by
  obtain ⟨⟨ls, h1, h2, h3, h4, h5⟩, h6⟩ := h
  refine ⟨⟨ls ++ List.replicate n (low', high'), ?_, ?_, ?_, ?_, ?_⟩, ?_⟩
  · rw [h1]
    simp
  · rw [List.length_append, List.length_replicate]
    omega
  · rw [List.pairwise_append]
    refine ⟨h3, ?_, fun x hx y hy => ?_⟩
    · rw [List.pairwise_replicate]
      exact .inr ⟨Int.le_refl _, Int.le_refl _, fun e1 _ => by
        have e1 : low' = high' := e1
        omega⟩
    · obtain ⟨_, rfl⟩ := List.mem_replicate.mp hy
      obtain ⟨a1, a2, a3⟩ := h5 x hx
      exact ⟨by show x.1 ≤ low'; omega, by show x.2 ≤ high'; omega, fun _ e1 => by
        have e1 : low' = high' := e1
        omega⟩
  · intro x hx
    rcases List.mem_append.mp hx with hx | hx
    · exact h4 x hx
    · obtain ⟨_, rfl⟩ := List.mem_replicate.mp hx
      exact ⟨by show 0 ≤ low'; omega, by show low' ≤ high'; omega⟩
  · intro x hx
    rcases List.mem_append.mp hx with hx | hx
    · obtain ⟨a1, a2, a3⟩ := h5 x hx
      exact ⟨by omega, by omega, a3⟩
    · obtain ⟨_, rfl⟩ := List.mem_replicate.mp hx
      exact ⟨Int.le_refl _, Int.le_refl _, fun e1 => by
        have e1 : low' = high' := e1
        omega⟩
  · omega
theorem RSt.fin {t j k : Nat} {rows : List (Option Lab)} {low high last d : Int} (h : RSt t j rows low high last) (ht : t ≤ 3) (hj : j ≤ k) (hd : 0 ≤ d ∧ d ≤ 2) {v : Int} (hv : v = max (max low high) (last + 1) + d) :
    Rows k (rows ++ oldsD v 9) := by
  obtain ⟨⟨ls, h1, h2, h3, h4, h5⟩, h6⟩ := h
  refine ⟨⟨t, ls, v, by rw [h1], ht, by omega, ?_, ?_, by omega⟩⟩
  · rw [List.pairwise_append]
    refine ⟨h3, List.pairwise_singleton _ _, fun x hx y hy => ?_⟩
    obtain rfl := List.mem_singleton.mp hy
    obtain ⟨a1, a2, a3⟩ := h5 x hx
    exact ⟨by show x.1 ≤ v; omega, by show x.2 ≤ v; omega, fun e1 _ => by
      have := a3 e1
      show x.1 < v
      omega⟩
  · intro x hx
    rcases List.mem_append.mp hx with hx | hx
    · exact h4 x hx
    · obtain rfl := List.mem_singleton.mp hx
      exact ⟨by show 0 ≤ v; omega, by show v ≤ v; omega⟩
theorem RSt.len {t j : Nat} {rows : List (Option Lab)} {low high last : Int} (h : RSt t j rows low high last) : rows.length ≤ t + 3 * j := by
  obtain ⟨⟨ls, h1, h2, _⟩, _⟩ := h
  rw [h1]
  simp
  omega
end PR
/-! MS: drawn scripts, what the law makes of rows behind them: promises. -/
namespace PR
open PySem PySem.Spec PyProof.Rows L2 DL
/-- drawn: k from lo to hi -/
theorem of_ints (is : List Int) (lo hi : Int) {Q : Sl → Prop} (h : ∀ i, lo ≤ i → i ≤ hi → Q (.v 2 (.int i))) (hn : 0 < is.length := by decide) (hl : is.length < 1073741824 := by decide) (hb : ∀ i ∈ is, lo ≤ i ∧ i ≤ hi := by decide) : C_of [.bag, .lst (is.map D.int)] Q := by
  refine ⟨?_, by simpa using hn, by simpa using hl, fun d hd => ?_⟩
  · clear hn hl hb
    induction is with
    | nil => rfl
    | cons i is ih => simpa using ih
  · obtain ⟨i, hi, rfl⟩ := List.mem_map.mp hd
    exact h i (hb i hi).1 (hb i hi).2
/-- a drawn command: ahead of row far -/
def Drawn (far : Int) : Cmd → Prop
  | .ins i n => 0 ≤ i ∧ i < far ∧ 1 ≤ n ∧ n ≤ 3
  | .del a b => 0 ≤ a ∧ a < far ∧ a ≤ b ∧ b ≤ a + 3
def C__law_command : Ctr := fun ds Q => ∃ far : Int, ds = [.bag, .int far] ∧ 9 ≤ far ∧ far < 1000000 ∧ ∀ c, Drawn far c → Q (.v 2 c.d)
def C__law_script : Ctr := fun ds Q => ∃ most : Nat, ds = [.bag, .int most] ∧ most ≤ 50 ∧ ∀ cs : List Cmd, cs.length ≤ most → (∀ c ∈ cs, Drawn 12 c) → Q (.own (cmdsD cs))
theorem drawn_near : ∀ (cs : List Cmd) (l : Nat), (∀ c ∈ cs, Drawn 12 c) → 20 + 4 * cs.length ≤ l → nearAll l cs
  | [], _, _, _ => trivial
  | c :: cs, l, h, hl => by
    have hc := h c (by simp)
    have ih := fun l' hl' => drawn_near cs l' (fun x hx => h x (by simp [hx])) hl'
    simp at hl
    cases c with
    | ins i n =>
      obtain ⟨h1, h2, h3, h4⟩ := hc
      exact ⟨⟨h1, h3, by omega⟩, ih _ (by simp [Cmd.len]; omega)⟩
    | del a b =>
      obtain ⟨h1, h2, h3, h4⟩ := hc
      exact ⟨⟨h1, h3, by omega⟩, ih _ (by simp [Cmd.len]; omega)⟩
theorem drawn_lens : ∀ (cs : List Cmd) (l : Nat), (∀ c ∈ cs, Drawn 12 c) → lenAll l cs ≤ l + 3 * cs.length
  | [], _, _ => by simp [lenAll]
  | c :: cs, l, h => by
    have hc := h c (by simp)
    have ih := drawn_lens cs (c.len l) (fun x hx => h x (by simp [hx]))
    have : c.len l ≤ l + 3 := by
      cases c with
      | ins i n =>
        obtain ⟨h1, h2, h3, h4⟩ := hc
        simp [Cmd.len]; omega
      | del a b => simp [Cmd.len]; omega
    show lenAll (c.len l) cs ≤ _
    simp
    omega
def spansL (n : Nat) : List Span := (List.range n).flatMap fun a => (List.range (n - a)).map fun k => ((a : Int), some ((a + k : Nat) : Int))
def C__law_spans : Ctr := fun ds Q => ∃ n : Nat, ds = [.int n] ∧ n ≤ 50 ∧ Q (.v 2 (.lst ((spansL n).map spanD)))
def boolRows (n : Nat) (a b : Int) : List Bool := (List.range n).map fun (k : Nat) => decide (a ≤ k) && decide ((k : Int) ≤ b)
def C__law_followed : Ctr := fun ds Q => ∃ (cs : List Cmd) (n : Nat) (a b : Int), ds = [.lst (cmdsD cs), .int n, .int a, .int b] ∧ nearAll n cs ∧ n ≤ 1000 ∧ (∀ j, j ≤ cs.length → lenAll n (cs.take j) ≤ 100000) ∧ (∀ c ∈ cs, ∀ i m, c = .ins i m → m < 1000) ∧ cs.length < 1000 ∧ Q (.v 2 (ospD (spanOf (cs.foldl stepB (boolRows n a b)))))
end PR
/-! MN: nearly the same rows, spans far away, claimed differences: promises. -/
namespace PR
open PySem PySem.Spec PyProof.Rows L2 DL
theorem seq_j {t u : DTS} {D : DEnds} {τ : DSt} (h : ∀ R : DSt → Prop, R = u D → t { D with nx := R } τ) : dSeq t u D τ := h _ rfl
def C_is_difference : Ctr := fun ds Q => ∃ (ps qs : List Pc) (s : Span), ds = [layD ps, layD qs, spanD s] ∧ Lay ps ∧ Lay qs ∧ Q (.v 2 (.bl (s.ok && decide (carF ps s ≠ carF qs s))))
def C__law_far : Ctr := fun ds Q => ds = [.bag] ∧ ∀ n : Int, 1000000 ≤ n → Q (.v 2 (.int n))
def C__law_bad_spans : Ctr := fun ds Q => ds = [.bag] ∧ ∀ s : Span, s.ok = false → Q (.v 2 (spanD s))
def C__law_changed_rows : Ctr := fun ds Q => ∃ (rows : List (Option Lab)) (v : Int), ds = [.bag, .lst (rows.map oL)] ∧ GRows rows v ∧ 8 ≤ rows.length ∧ rows.length ≤ 60 ∧ ∀ rows', Near rows rows' v → Q (.own (rows'.map oL))
def C__law_carried_due : Ctr := fun ds Q => ∃ (rows : List (Option Lab)) (v : Int) (s : Span), ds = [.lst (rows.map oL), spanD s] ∧ rows.getLast? = some (some (v, v)) ∧ rows.length < 1000 ∧ Q (.v 2 (ospD (carDue rows v s)))
def C__law_one_length : Ctr := fun ds Q => ∃ (rows rows' : List (Option Lab)) (v v' : Int), ds = [.lst (rows.map oL), .lst (rows'.map oL)] ∧ rows.getLast? = some (some (v, v)) ∧ rows'.getLast? = some (some (v', v')) ∧ rows.length < 1000 ∧ rows'.length < 1000 ∧ 0 ≤ v ∧ v < 1000 ∧ 0 ≤ v' ∧ v' < 1000 ∧
  Q (.v 2 (.tup [.lst ((rows ++ olds (v + 1) (max v v' - v).toNat).map oL), .lst ((rows' ++ olds (v' + 1) (max v v' - v').toNat).map oL)]))
theorem use_far {Q : Sl → Prop} (q : ∀ n : Int, 1000000 ≤ n → Q (.v 2 (.int n))) : C__law_far [.bag] Q := ⟨rfl, q⟩
theorem use_isdiff {ps qs : List Pc} {s : Span} (h : Lay ps) (g : Lay qs) {Q : Sl → Prop} : C_is_difference [layD ps, layD qs, spanD s] Q = Q (.v 2 (.bl (s.ok && decide (carF ps s ≠ carF qs s)))) := by
  apply propext
  constructor
  · rintro ⟨ps', qs', s', e, _, _, q⟩
    simp [pcsD_inj, spanD_inj] at e
    obtain ⟨rfl, rfl, rfl⟩ := e
    exact q
  · exact fun q => ⟨ps, qs, s, rfl, h, g, q⟩
theorem use_cdue {rows : List (Option Lab)} {v : Int} {s : Span} {Q : Sl → Prop} (h : rows.getLast? = some (some (v, v))) (hl : rows.length < 1000) (q : Q (.v 2 (ospD (carDue rows v s)))) : C__law_carried_due [.lst (rows.map oL), spanD s] Q := ⟨rows, v, s, rfl, h, hl, q⟩
@[simp] theorem eqB_osp (x y : Option Span) : eqB (ospD x) (ospD y) = decide (x = y) := by
  rw [Bool.eq_iff_iff, decide_eq_true_eq]
  cases x with
  | none => cases y with
    | none => simp [ospD]
    | some y => obtain ⟨a, b⟩ := y; simp [ospD, spanD]
  | some x =>
    obtain ⟨a, b⟩ := x
    cases y with
    | none => simp [ospD, spanD]
    | some y => obtain ⟨c, d⟩ := y; cases b <;> cases d <;> simp [ospD, spanD]
@[simp] theorem lay_osp (s : Option Span) : lay (ospD s) = true := by
  cases s with
  | none => rfl
  | some s => obtain ⟨a, b⟩ := s; cases b <;> rfl
theorem dep_osp (s : Option Span) : dep (ospD s) ≤ 1 := by
  cases s with
  | none => simp [ospD]
  | some s => obtain ⟨a, b⟩ := s; cases b <;> simp [ospD, spanD]
@[simp] theorem dep_osp64 (s : Option Span) : dep (ospD s) ≤ 64 := by have := dep_osp s; omega
end PR
/-! Q13: the spans that are carried to a span. -/
namespace PR
def lowF (ps : List Pc) (i : Int) : Int := if i < 0 then -1 else match lab ps i with
  | none => -1
  | some x => x.1
def highF (ps : List Pc) (i : Int) : Int := match lab ps i with
  | none => 0
  | some x => x.2
def srcF (ps : List Pc) (s : Span) : Option ((Int × Int) × Option (Int × Int)) :=
  if lowF ps (s.1 - 1) + 1 > lowF ps s.1 then none else match s.2 with
  | none => some ((lowF ps (s.1 - 1) + 1, lowF ps s.1), none)
  | some b => if highF ps b ≤ highF ps (b + 1) - 1 then some ((lowF ps (s.1 - 1) + 1, lowF ps s.1), some (highF ps b, highF ps (b + 1) - 1)) else none
section
variable {ps : List Pc} (h : Whole ps)
include h
theorem low_nn (i : Int) : -1 ≤ lowF ps i := by
  unfold lowF
  split
  · omega
  · split
    · omega
    · rename_i x e
      have := (h.good.ok i x (by omega) e).1
      omega
theorem low_lab {i : Int} (hi : 0 ≤ i) (hl : 0 ≤ lowF ps i) : ∃ x, lab ps i = some x ∧ lowF ps i = x.1 ∧ highF ps i = x.2 := by
  unfold lowF at hl ⊢
  rw [if_neg (by omega)] at hl ⊢
  unfold highF
  cases e : lab ps i with
  | none => rw [e] at hl; simp at hl
  | some x => exact ⟨x, rfl, rfl, rfl⟩
theorem from_low {a i : Int} (ha : 0 ≤ a) (hi : 0 ≤ i) : rbF ps a ≤ i ↔ a ≤ lowF ps i := by
  rw [← rb_memL h a hi]
  unfold lowF
  rw [if_neg (by omega)]
  cases e : lab ps i with
  | none => simp [fromL]; omega
  | some x => simp [fromL]
theorem rb_eq {a i : Int} (ha : 0 ≤ a) (hi : 0 ≤ i) : rbF ps a = i ↔ lowF ps (i - 1) + 1 ≤ a ∧ a ≤ lowF ps i := by
  rw [← from_low h ha hi]
  have nn := rb_nn h a
  by_cases e : i = 0
  · subst e
    have : lowF ps (0 - 1) = -1 := by simp [lowF]
    rw [this]
    omega
  · have := from_low h ha (i := i - 1) (by omega)
    omega
theorem rw_eq {b j : Int} (hj : 0 ≤ j) {x y : Lab} (hx : lab ps j = some x) (hy : lab ps (j + 1) = some y) : rwF ps b - 1 = j ↔ x.2 ≤ b ∧ b ≤ y.2 - 1 := by
  have h1 := rw_mem h b (i := j) hj
  have h2 := rw_mem h b (i := j + 1) (by omega)
  rw [hx] at h1
  rw [hy] at h2
  simp [uptoL] at h1 h2
  omega
theorem lab_mono {i j : Int} (hi : 0 ≤ i) (hj : i ≤ j) {x : Lab} (hx : lab ps i = some x) : ∃ y, lab ps j = some y ∧ x.1 ≤ y.1 ∧ x.2 ≤ y.2 := by
  by_cases e : i = j
  · subst e
    exact ⟨x, hx, Int.le_refl _, Int.le_refl _⟩
  · have := h.good.mono i j hi (by omega)
    rw [hx] at this
    cases e2 : lab ps j with
    | none => rw [e2] at this; exact this.elim
    | some y => rw [e2] at this; exact ⟨y, rfl, this.1, this.2.1⟩
theorem src_none {i j : Int} (hi : 0 ≤ i) (hj : i ≤ j) (hs : srcF ps (i, some j) = none) {a b : Int} (ha : 0 ≤ a) : carF ps (a, some b) ≠ some (i, some j) := by
  intro e
  simp only [carF] at e
  split at e
  · cases e
  · injection e with e
    injection e with e1 e2
    injection e2 with e2
    have h1 := (rb_eq h ha hi).mp e1
    simp only [srcF] at hs
    rw [if_neg (by omega)] at hs
    obtain ⟨x, hx, _⟩ := low_lab h hi (by omega)
    obtain ⟨y, hy, _⟩ := lab_mono h hi hj hx
    obtain ⟨z, hz, _⟩ := lab_mono h (show 0 ≤ j by omega) (show j ≤ j + 1 by omega) hy
    have h2 := (rw_eq h (by omega) hy hz).mp e2
    simp only [highF, hy, hz] at hs
    rw [if_pos (by omega)] at hs
    cases hs
theorem src_some {i j : Int} (hi : 0 ≤ i) (hj : i ≤ j) {l t lo hi' : Int} (hs : srcF ps (i, some j) = some ((l, t), some (lo, hi'))) : 0 ≤ l ∧ l ≤ t ∧ t ≤ lo ∧ lo ≤ hi' ∧ hi' = highF ps (j + 1) - 1 ∧ ∀ a b : Int, 0 ≤ a → (carF ps (a, some b) = some (i, some j) ↔ l ≤ a ∧ a ≤ t ∧ lo ≤ b ∧ b ≤ hi') := by
  simp only [srcF] at hs
  by_cases c1 : lowF ps (i - 1) + 1 > lowF ps i
  · rw [if_pos c1] at hs; cases hs
  · rw [if_neg c1] at hs
    by_cases c2 : highF ps j ≤ highF ps (j + 1) - 1
    · rw [if_pos c2] at hs
      injection hs with hs
      injection hs with e1 e2
      injection e1 with e1 e3
      injection e2 with e2
      injection e2 with e2 e4
      have n1 := low_nn h (i - 1)
      obtain ⟨x, hx, x1, x2⟩ := low_lab h hi (by omega)
      obtain ⟨y, hy, y1, y2⟩ := lab_mono h hi hj hx
      obtain ⟨z, hz, _⟩ := lab_mono h (show 0 ≤ j by omega) (show j ≤ j + 1 by omega) hy
      have ok := h.good.ok i x hi hx
      have hyh : highF ps j = y.2 := by simp [highF, hy]
      have hzh : highF ps (j + 1) = z.2 := by simp [highF, hz]
      have ok2 := ok.2
      refine ⟨by omega, by omega, by omega, by omega, by omega, fun a b ha => ?_⟩
      have h1 := rb_eq h ha hi
      have h2 := rw_eq h (b := b) (by omega) hy hz
      simp only [carF]
      constructor
      · intro e
        split at e
        · cases e
        · injection e with e
          injection e with e1 e2
          injection e2 with e2
          have := h1.mp e1
          have := h2.mp e2
          omega
      · intro ⟨k1, k2, k3, k4⟩
        have k5 := h1.mpr ⟨by omega, by omega⟩
        have k6 := h2.mpr ⟨by omega, by omega⟩
        rw [if_neg (by omega), k5, k6]
    · rw [if_neg c2] at hs; cases hs
theorem src_open {i : Int} (hi : 0 ≤ i) {a : Int} (ha : 0 ≤ a) : carF ps (a, none) = some (i, none) ↔ lowF ps (i - 1) + 1 ≤ a ∧ a ≤ lowF ps i := by
  rw [← rb_eq h ha hi]
  simp [carF]
theorem high_last {rows : List (Option Lab)} {v : Int} (L : Lays rows ps v) {j : Int} (hj : 0 ≤ j) (hl : j < rows.length) : highF ps j ≤ v ∧ lowF ps j ≤ v := by
  have e := L.last_lab
  unfold lowF highF
  rw [if_neg (by omega)]
  have v0 : 0 ≤ v := (h.good.ok _ _ (by omega) e).1
  cases hx : lab ps j with
  | none => simp; omega
  | some x =>
    obtain ⟨y, hy, h1, h2⟩ := lab_mono h hj (show j ≤ (rows.length : Int) - 1 by omega) hx
    rw [e] at hy
    injection hy with hy
    subst hy
    exact ⟨h2, h1⟩
end
/-! boxes -/
def boxL (l t lo hi : Nat) : List Span := (List.range (t - l + 1)).flatMap fun i => (List.range (hi - lo + 1)).map fun j => (((l + i : Nat) : Int), some (((lo + j : Nat) : Int)))
def spansN (n : Nat) : List Span := (List.range n).flatMap fun a => (List.range (n - a)).map fun k => ((a : Int), some ((a + k : Nat) : Int))
theorem flatMap_same {α β : Type} {f g : α → List β} : ∀ {xs : List α}, (∀ a ∈ xs, f a = g a) → xs.flatMap f = xs.flatMap g
  | [], _ => rfl
  | x :: xs, h => by rw [List.flatMap_cons, List.flatMap_cons, h x (by simp), flatMap_same fun a ha => h a (by simp [ha])]
theorem flatMap_if {α β : Type} (c : α → Bool) (g : α → List β) : ∀ xs : List α, xs.flatMap (fun a => if c a then g a else []) = (xs.filter c).flatMap g
  | [] => rfl
  | x :: xs => by
    rw [List.flatMap_cons, flatMap_if c g xs, List.filter_cons]
    cases c x <;> simp
theorem filter_win {p : Nat → Bool} {n lo hi : Nat} (h : ∀ k, k < n → (p k = true ↔ lo ≤ k ∧ k ≤ hi)) (hl : lo ≤ hi) (hh : hi < n) : (List.range n).filter p = (List.range (hi - lo + 1)).map (lo + ·) := by
  rw [filter_range_int h hl hh]
  exact List.range'_eq_map_range
theorem box_eq {n l t lo hi : Nat} (h1 : l ≤ t) (h2 : t ≤ lo) (h3 : lo ≤ hi) (h4 : hi < n) (p : Span → Bool) (hp : ∀ a b : Nat, a ≤ b → b < n → (p ((a : Int), some (b : Int)) = true ↔ (l ≤ a ∧ a ≤ t) ∧ lo ≤ b ∧ b ≤ hi)) : (spansN n).filter p = boxL l t lo hi := by
  unfold spansN boxL
  rw [List.filter_flatMap]
  have e : ∀ a ∈ List.range n, ((List.range (n - a)).map fun k => ((a : Int), some ((a + k : Nat) : Int))).filter p = if decide (l ≤ a ∧ a ≤ t) then (List.range (hi - lo + 1)).map (fun j => ((a : Int), some ((lo + j : Nat) : Int))) else [] := by
    intro a ha
    have ha := List.mem_range.mp ha
    rw [List.filter_map]
    by_cases c : l ≤ a ∧ a ≤ t
    · rw [if_pos (by simpa using c)]
      rw [filter_win (lo := lo - a) (hi := hi - a) (fun k hk => by
        show p ((a : Int), some ((a + k : Nat) : Int)) = true ↔ _
        rw [hp a (a + k) (by omega) (by omega)]; omega) (by omega) (by omega)]
      rw [List.map_map, show hi - a - (lo - a) + 1 = hi - lo + 1 by omega]
      refine List.map_congr_left fun j hj => ?_
      show ((a : Int), some ((a + (lo - a + j) : Nat) : Int)) = _
      rw [show a + (lo - a + j) = lo + j by omega]
    · rw [if_neg (by simpa using c)]
      rw [List.map_eq_nil_iff, List.filter_eq_nil_iff]
      intro k hk
      have hk := List.mem_range.mp hk
      show ¬ p ((a : Int), some ((a + k : Nat) : Int)) = true
      rw [hp a (a + k) (by omega) (by omega)]
      exact fun z => c z.1
  rw [flatMap_same e, flatMap_if, filter_win (lo := l) (hi := t) (fun k hk => by simp) h1 (by omega), List.flatMap_map]
end PR
/-! M5: rows by number, sources of spans: promises. -/
namespace PR
open PySem PySem.Spec PyProof.Rows L2 DL
def pairD (x : Int × Int) : D := .tup [.int x.1, .int x.2]
def srcD : Option ((Int × Int) × Option (Int × Int)) → D
  | none => .non
  | some (x, none) => .tup [pairD x, .non]
  | some (x, some y) => .tup [pairD x, pairD y]
abbrev eBadRow (n : Int) : Er := mkEr "BadRow" ["number"] [.int n]
theorem ok_badrow (n : Int) : okEr (eBadRow n) := okEr_1 rfl
def C_label_at : Ctr := fun ds Q => ∃ (ps : List Pc) (tu : Bool) (n : Int), ds = [seqOf tu (pcsD ps), .int n] ∧ Lay ps ∧ 0 ≤ n ∧ ps.length < 1000 ∧ Q (.v 2 (oL (lab ps n)))
def X_Layout_row : CtrX := fun ds Q R => ∃ (ps : List Pc) (n : Int), ds = [layD ps, .int n] ∧ Lay ps ∧ ps.length < 1000 ∧ (0 ≤ n → Q (.v 2 (oL (lab ps n)))) ∧ (n < 0 → R (eBadRow n))
def C_Layout_row : Ctr := fun ds Q => ∃ (ps : List Pc) (n : Int), ds = [layD ps, .int n] ∧ Lay ps ∧ ps.length < 1000 ∧ 0 ≤ n ∧ Q (.v 2 (oL (lab ps n)))
theorem calm_Layout_row : ∀ ds Q, C_Layout_row ds Q → X_Layout_row ds Q fun _ => False := fun ds Q ⟨ps, n, e, hl, h2, hn, q⟩ => ⟨ps, n, e, hl, h2, fun _ => q, fun z => by omega⟩
def X_low_of : CtrX := fun ds Q R => ∃ (ps : List Pc) (n : Int), ds = [layD ps, .int n] ∧ Lay ps ∧ ps.length < 1000 ∧ Q (.v 2 (.int (lowF ps n)))
def C_low_of : Ctr := fun ds Q => ∃ (ps : List Pc) (n : Int), ds = [layD ps, .int n] ∧ Lay ps ∧ ps.length < 1000 ∧ Q (.v 2 (.int (lowF ps n)))
theorem calm_low_of : ∀ ds Q, C_low_of ds Q → X_low_of ds Q fun _ => False := fun ds Q ⟨ps, n, e, hl, h2, q⟩ => ⟨ps, n, e, hl, h2, q⟩
def X_sources : CtrX := fun ds Q R => ∃ (ps : List Pc) (s : Span), ds = [layD ps, spanD s] ∧ Whole ps ∧ ps.length < 1000 ∧ (s.ok = true → Q (.v 2 (srcD (srcF ps s)))) ∧ (s.ok = false → R eBadSpan)
def C_sources : Ctr := fun ds Q => ∃ (ps : List Pc) (s : Span), ds = [layD ps, spanD s] ∧ Whole ps ∧ ps.length < 1000 ∧ s.ok = true ∧ Q (.v 2 (srcD (srcF ps s)))
theorem calm_sources : ∀ ds Q, C_sources ds Q → X_sources ds Q fun _ => False := fun ds Q ⟨ps, s, e, hl, h2, hs, q⟩ => ⟨ps, s, e, hl, h2, fun _ => q, fun z => by rw [hs] at z; cases z⟩
section
variable {Q : Sl → Prop} {ps : List Pc}
theorem use_row {n : Int} (h : Lay ps) (hl : ps.length < 1000) (hn : 0 ≤ n) : C_Layout_row [layD ps, .int n] Q = Q (.v 2 (oL (lab ps n))) := by
  apply propext
  constructor
  · rintro ⟨ps', n', e, _, _, _, q⟩
    simp [pcsD_inj] at e
    obtain ⟨rfl, rfl⟩ := e
    exact q
  · exact fun q => ⟨ps, n, rfl, h, hl, hn, q⟩
theorem use_low {n : Int} (h : Lay ps) (hl : ps.length < 1000) : C_low_of [layD ps, .int n] Q = Q (.v 2 (.int (lowF ps n))) := by
  apply propext
  constructor
  · rintro ⟨ps', n', e, _, _, q⟩
    simp [pcsD_inj] at e
    obtain ⟨rfl, rfl⟩ := e
    exact q
  · exact fun q => ⟨ps, n, rfl, h, hl, q⟩
theorem use_sources {s : Span} (h : Whole ps) (hl : ps.length < 1000) (hs : s.ok = true) : C_sources [layD ps, spanD s] Q = Q (.v 2 (srcD (srcF ps s))) := by
  apply propext
  constructor
  · rintro ⟨ps', n', e, _, _, _, q⟩
    simp [pcsD_inj, spanD_inj] at e
    obtain ⟨rfl, rfl⟩ := e
    exact q
  · exact fun q => ⟨ps, s, rfl, h, hl, hs, q⟩
end
end PR
/-! Q24: where an old row stands; how many top rows. -/
namespace PR
def whG : List Pc → Int → Int → Option Int
  | [], _, _ => none
  | .top n :: ps, t, v => whG ps (t + n) v
  | .new _ _ n :: ps, t, v => whG ps (t + n) v
  | .old a none :: ps, t, v => if a ≤ v then some (t + v - a) else whG ps t v
  | .old a (some b) :: ps, t, v => if a ≤ v ∧ v ≤ b then some (t + v - a) else whG ps (t + (b - a + 1)) v
def whF (ps : List Pc) (v : Int) : Option Int := whG ps 0 v
def topF : List Pc → Int
  | .top n :: _ => n
  | _ => 0
theorem whG_some : ∀ (ps : List Pc) (t v r : Int), Lay ps → whG ps t v = some r → t ≤ r ∧ lab ps (r - t) = some (v, v)
  | [], t, v, r, h, e => by cases e
  | p :: ps, t, v, r, h, e => by
    rcases h.cases with ⟨a, rfl, rfl, ha⟩ | ⟨hv, ho, hl⟩
    · simp only [whG] at e
      split at e
      · injection e with e
        refine ⟨by omega, ?_⟩
        simp [lab, Pc.size, Pc.at_]
        omega
      · cases e
    · cases p with
      | top n =>
        simp [Pc.valid] at hv
        simp only [whG] at e
        obtain ⟨e1, e2⟩ := whG_some ps _ v r hl e
        refine ⟨by omega, ?_⟩
        simp only [lab, Pc.size]
        rw [if_neg (by omega), show r - t - n = r - (t + n) by omega]
        exact e2
      | new l k n =>
        simp [Pc.valid] at hv
        simp only [whG] at e
        obtain ⟨e1, e2⟩ := whG_some ps _ v r hl e
        refine ⟨by omega, ?_⟩
        simp only [lab, Pc.size]
        rw [if_neg (by omega), show r - t - n = r - (t + n) by omega]
        exact e2
      | old a b => cases b with
        | none => cases ho
        | some b =>
          simp [Pc.valid] at hv
          simp only [whG] at e
          split at e
          · injection e with e
            refine ⟨by omega, ?_⟩
            simp only [lab, Pc.size, Pc.at_]
            rw [if_pos (by omega)]
            simp
            omega
          · obtain ⟨e1, e2⟩ := whG_some ps _ v r hl e
            refine ⟨by omega, ?_⟩
            simp only [lab, Pc.size]
            rw [if_neg (by omega), show r - t - (b - a + 1) = r - (t + (b - a + 1)) by omega]
            exact e2
theorem whG_none : ∀ (ps : List Pc) (t v r : Int), Lay ps → whG ps t v = none → 0 ≤ r → lab ps r ≠ some (v, v)
  | [], t, v, r, h, e, hr => by simp [lab]
  | p :: ps, t, v, r, h, e, hr => by
    rcases h.cases with ⟨a, rfl, rfl, ha⟩ | ⟨hv, ho, hl⟩
    · simp only [whG] at e
      split at e
      · cases e
      · simp [lab, Pc.size, Pc.at_]
        omega
    · cases p with
      | top n =>
        simp only [whG] at e
        simp only [lab, Pc.size]
        split
        · simp [Pc.at_]
        · exact whG_none ps _ v _ hl e (by omega)
      | new l k n =>
        simp [Pc.valid] at hv
        simp only [whG] at e
        simp only [lab, Pc.size]
        split
        · simp [Pc.at_]
          omega
        · exact whG_none ps _ v _ hl e (by omega)
      | old a b => cases b with
        | none => cases ho
        | some b =>
          simp only [whG] at e
          split at e
          · cases e
          · simp only [lab, Pc.size]
            split
            · simp [Pc.at_]
              omega
            · exact whG_none ps _ v _ hl e (by omega)
theorem lab_uniq {ps : List Pc} (h : Whole ps) {v r s : Int} (hr : 0 ≤ r) (hs : 0 ≤ s) (e1 : lab ps r = some (v, v)) (e2 : lab ps s = some (v, v)) : r = s := by
  have key : ∀ r s : Int, 0 ≤ r → r < s → lab ps r = some (v, v) → lab ps s = some (v, v) → False := fun r s hr hlt e1 e2 => by
    have m := h.good.mono r s hr hlt
    rw [e1, e2] at m
    have := m.2.2 rfl rfl
    omega
  rcases Int.lt_trichotomy r s with z | z | z
  · exact (key r s hr z e1 e2).elim
  · exact z
  · exact (key s r hs z e2 e1).elim
theorem whF_iff {ps : List Pc} (h : Whole ps) {v r : Int} : whF ps v = some r ↔ 0 ≤ r ∧ lab ps r = some (v, v) := by
  constructor
  · intro e
    have := whG_some ps 0 v r h.lay e
    simpa using this
  · rintro ⟨h0, e⟩
    cases e2 : whF ps v with
    | none => exact absurd e (whG_none ps 0 v r h.lay e2 h0)
    | some s =>
      have := whG_some ps 0 v s h.lay e2
      simp at this
      rw [lab_uniq h h0 this.1 e this.2]
variable {rows : List (Option Lab)} {ps : List Pc} {v : Int}
theorem Lays.row (L : Lays rows ps v) {k : Nat} (hk : k < rows.length) : rows[k]? = some (lab ps k) := L.held k hk
theorem Lays.inside_old (L : Lays rows ps v) {x r : Int} (hr : 0 ≤ r) (e : lab ps r = some (x, x)) (hx : x ≤ v) : r < rows.length := by
  rcases Int.lt_or_le r rows.length with z | z
  · exact z
  · have := L.tl.2 r (by omega)
    rw [e] at this
    simp at this
    omega
/-- the last nine rows roll into one piece -/
theorem rollF_olds (init : List Pc) (a : Int) : ∀ (n : Nat) (b : Int), ((rangeI (b + 1) n).map fun i => (some (i, i) : Option Lab)).foldl rollF (init ++ [.old a (some b)]) = init ++ [.old a (some (b + n))]
  | 0, b => by simp [rangeI]
  | n + 1, b => by
    have e : rollF (init ++ [.old a (some b)]) (some (b + 1, b + 1)) = init ++ [.old a (some (b + 1))] := by simp [rollF]
    simp only [rangeI, List.map_cons, List.foldl_cons]
    rw [e, rollF_olds init a n (b + 1)]
    congr 4
    push_cast
    omega
theorem rows_tail {k : Nat} (h : Rows k rows) : ∃ (w : Int), Lays rows (roll rows) w ∧ 8 ≤ w ∧ w ≤ 6 * k + 18 ∧ ∃ init a, roll rows = init ++ [.old a none] ∧ 0 ≤ a ∧ a + 8 ≤ w := by
  obtain ⟨w, ⟨w0, w1⟩, g⟩ := rows_gr h
  have L := g.lays.1
  refine ⟨w, L, w0, w1, ?_⟩
  obtain ⟨t, ls, u, hr, ht, hl, hp, ho, hb⟩ := h.ex
  generalize hx : List.replicate t none ++ ls.map some = X at hr
  have e9 : (rangeI u 9).map (fun i => (some (i, i) : Option Lab)) = some (u, u) :: (rangeI (u + 1) 8).map fun i => some (i, i) := rfl
  obtain ⟨q, q1, q2, q3, q4⟩ := rollF_last (X.foldl rollF []) (some (u, u))
  obtain ⟨a, b, rfl⟩ := q4 u rfl
  obtain ⟨init, ei⟩ : ∃ init, rollF (X.foldl rollF []) (some (u, u)) = init ++ [.old a (some b)] := List.getLast?_eq_some_iff.mp q1
  have R := Rolled.fold (X ++ [some (u, u)]) [] [] ⟨by simp [allC], rfl, fun k hk => by simp at hk⟩ (fun x hx => by
    refine g.ok x ?_
    rw [hr, e9]
    simp at hx ⊢
    rcases hx with z | z
    · exact .inl z
    · exact .inr (.inl z))
  rw [List.nil_append, List.foldl_append] at R
  simp only [List.foldl_cons, List.foldl_nil, ei] at R
  obtain ⟨c1, c2⟩ := allC_app.mp R.cl
  have hvb : (Pc.old a (some b)).valid = true := (c2 _ (by simp)).1
  simp [Pc.valid] at hvb
  have tn := tot_nonneg c1
  have tt := R.tt
  rw [tot_app] at tt
  simp [tot, Pc.size] at tt
  have last := R.at_ X.length (by simp)
  rw [List.getElem?_append_right (by omega), Nat.sub_self, lab_app c1 (by omega), if_neg (by omega)] at last
  simp [lab, Pc.size, Pc.at_] at last
  have hbu : b = u := by
    omega
  have hwu : w = u + 8 := by
    have := g.lst
    rw [hr, e9] at this
    simp [rangeI] at this
    omega
  refine ⟨init, a, ?_, hvb.1, by omega⟩
  unfold roll
  rw [hr, e9, List.foldl_append, List.foldl_cons, ei, hbu, rollF_olds]
  simp [rollE]
theorem count_none {k : Nat} (h : Rows k rows) : (rows.countP fun x => x.isNone : Nat) = topF (roll rows) := by
  obtain ⟨w, ⟨w0, w1⟩, g⟩ := rows_gr h
  have L := g.lays.1
  obtain ⟨t, ls, u, hr, ht, hl, hp, ho, hb⟩ := h.ex
  have e1 : rows.countP (fun x => x.isNone) = t := by
    rw [hr]
    have z : (ls.map some).countP (fun x : Option Lab => x.isNone) = 0 := List.countP_eq_zero.mpr fun x hx => by
      obtain ⟨y, _, rfl⟩ := List.mem_map.mp hx
      simp
    rw [List.countP_append, List.countP_append, z, List.countP_replicate]
    simp [rangeI]
  rw [e1]
  have lt : t < rows.length := by
    rw [hr]
    simp [rangeI] <;> omega
  have at_t : ∃ x, lab (roll rows) t = some x := by
    have this := L.row lt
    have e2 : rows[t]? = (ls.map some ++ ((rangeI u 9).map fun i => some (i, i)))[0]? := by
      rw [hr, List.append_assoc, List.getElem?_append_right (by simp)]
      simp
    rw [e2] at this
    cases hz : lab (roll rows) t with
    | some x => exact ⟨x, rfl⟩
    | none =>
      rw [hz] at this
      exfalso
      cases ls with
      | nil => simp [rangeI] at this
      | cons y ls => simp at this
  have below : ∀ j : Nat, j < t → lab (roll rows) j = none := fun j hj => by
    have this := L.row (show j < rows.length by omega)
    have e2 : rows[j]? = some none := by
      rw [hr, List.append_assoc, List.getElem?_append_left (by simpa using hj)]
      simp [hj]
    rw [e2] at this
    injection this with this
    exact this.symm
  have lay := L.wh.lay
  have nr := L.nr
  generalize roll rows = ps at *
  cases ps with
  | nil => exact absurd rfl lay.ne
  | cons p ps =>
    have other : p.first.isSome = true → t = 0 := fun z => by
      rcases Nat.eq_zero_or_pos t with c | c
      · exact c
      · have := below 0 c
        rw [show ((0 : Nat) : Int) = 0 from rfl, lab_head lay] at this
        rw [this] at z
        cases z
    cases p with
    | old a b => simp [topF, other rfl]
    | new l k n => simp [topF, other rfl]
    | top n =>
      simp only [topF]
      rcases lay.cases with ⟨a, z, _⟩ | ⟨hv, _, hl2⟩
      · cases z
      · simp [Pc.valid] at hv
        obtain ⟨x, hx⟩ := at_t
        have c1 : ¬ (t : Int) < n := fun z => by
          simp only [lab, Pc.size] at hx
          rw [if_pos z] at hx
          cases hx
        rcases Int.lt_or_le n t with z | z
        · have bn := below n.toNat (by omega)
          rw [show ((n.toNat : Nat) : Int) = n by omega] at bn
          simp only [lab, Pc.size] at bn
          rw [if_neg (by omega), show n - n = 0 by omega] at bn
          cases ps with
          | nil => exact absurd rfl hl2.ne
          | cons q qs =>
            rw [lab_head hl2] at bn
            cases q with
            | top m => exact absurd nr.1 (by simp [weld])
            | old a b => cases bn
            | new l k n => cases bn
        · omega
end PR
/-! MWh: the row of an old row; top rows: promises. -/
namespace PR
open PySem PySem.Spec PyProof.Rows L2 DL
def X_Layout_where : CtrX := fun ds Q R => ∃ (ps : List Pc) (n : Int), ds = [layD ps, .int n] ∧ Lay ps ∧ ps.length < 1000 ∧ (0 ≤ n → Q (.v 2 (oD (whF ps n)))) ∧ (n < 0 → R (eBadRow n))
def C_Layout_where : Ctr := fun ds Q => ∃ (ps : List Pc) (n : Int), ds = [layD ps, .int n] ∧ Lay ps ∧ ps.length < 1000 ∧ 0 ≤ n ∧ Q (.v 2 (oD (whF ps n)))
theorem calm_Layout_where : ∀ ds Q, C_Layout_where ds Q → X_Layout_where ds Q fun _ => False := fun ds Q ⟨ps, n, e, hl, h2, hn, q⟩ => ⟨ps, n, e, hl, h2, fun _ => q, fun z => by omega⟩
def C_Layout_top : Ctr := fun ds Q => ∃ ps : List Pc, ds = [layD ps] ∧ Lay ps ∧ Q (.v 2 (.int (topF ps)))
section
variable {Q : Sl → Prop} {ps : List Pc}
theorem use_where {n : Int} (h : Lay ps) (hl : ps.length < 1000) (hn : 0 ≤ n) : C_Layout_where [layD ps, .int n] Q = Q (.v 2 (oD (whF ps n))) := by
  apply propext
  constructor
  · rintro ⟨ps', n', e, _, _, _, q⟩
    simp [pcsD_inj] at e
    obtain ⟨rfl, rfl⟩ := e
    exact q
  · exact fun q => ⟨ps, n, rfl, h, hl, hn, q⟩
end
end PR
/-! TWh: readings (printed by mkt.py). -/
namespace PR
open PySem PySem.Spec PyProof.Rows L2 DL
abbrev N_Layout_where : List Str := ["self", "old", "total", "piece", "size"]
abbrev P_Layout_where : List Str := ["self", "old"]
def lbx1_Layout_where : DTS := (dSeq (dIf (tvAnd (tV (dOp fEq (dIxK 0 (dVar 3)) (dK (.str "old")))) (tvAnd (tV (dOp fLe (dIxK 1 (dVar 3)) (dVar 1))) (tvOr (tV (dIsN (dIxK 2 (dVar 3)))) (tV (dOp fLe (dVar 1) (dIxK 2 (dVar 3))))))) (dRet (dOp fSub (dOp fAdd (dVar 2) (dVar 1)) (dIxK 1 (dVar 3)))) dNext) (dSeq (dSet 4 (dCall C_size_of [] (aCons (dVar 3) aNil))) (dAug 2 iAdd (dIfE (tV (dIsN (dVar 4))) (dK (.int 0)) (dVar 4)))))
theorem lbx1_Layout_where_e (E : DEnds) (τ : DSt) : lbx1_Layout_where E τ = (dSeq (dIf (tvAnd (tV (dOp fEq (dIxK 0 (dVar 3)) (dK (.str "old")))) (tvAnd (tV (dOp fLe (dIxK 1 (dVar 3)) (dVar 1))) (tvOr (tV (dIsN (dIxK 2 (dVar 3)))) (tV (dOp fLe (dVar 1) (dIxK 2 (dVar 3))))))) (dRet (dOp fSub (dOp fAdd (dVar 2) (dVar 1)) (dIxK 1 (dVar 3)))) dNext) (dSeq (dSet 4 (dCall C_size_of [] (aCons (dVar 3) aNil))) (dAug 2 iAdd (dIfE (tV (dIsN (dVar 4))) (dK (.int 0)) (dVar 4))))) E τ := rfl
def tx_Layout_where : DTS := (dSeq (dIf (tV (dOp fLt (dVar 1) (dK (.int 0)))) (dRaise "BadRow" ["number"] (aCons (dVar 1) aNil)) dNext) (dSeq (dSet 2 (dK (.int 0))) (dSeq (dFor (dFld 0 0 (dVar 0)) (gN 3) lbx1_Layout_where) (dRet (dK .non)))))
abbrev N_Layout_top : List Str := ["self"]
abbrev P_Layout_top : List Str := ["self"]
def t_Layout_top : DTS := (dRet (dIfE (tV (dOp fEq (dIxK 0 (dIxK 0 (dFld 0 0 (dVar 0)))) (dK (.str "top")))) (dIxK 1 (dIxK 0 (dFld 0 0 (dVar 0)))) (dK (.int 0))))
end PR
/-! T5: rows by number, sources of spans: readings (printed by mkt.py). -/
namespace PR
open PySem PySem.Spec PyProof.Rows L2 DL
abbrev N_label_at : List Str := ["pieces", "number"]
abbrev P_label_at : List Str := ["pieces", "number"]
def t_label_at : DTS := (dRet (dCall C_first_label [] (aCons (dIxK 0 (dIxK 1 (dCall C_cut [] (aCons (dVar 0) (aCons (dVar 1) aNil))))) aNil)))
abbrev N_Layout_row : List Str := ["self", "number"]
abbrev P_Layout_row : List Str := ["self", "number"]
def tx_Layout_row : DTS := (dSeq (dIf (tV (dOp fLt (dVar 1) (dK (.int 0)))) (dRaise "BadRow" ["number"] (aCons (dVar 1) aNil)) dNext) (dRet (dCall C_label_at [] (aCons (dFld 0 0 (dVar 0)) (aCons (dVar 1) aNil)))))
abbrev N_low_of : List Str := ["layout", "number", "label"]
abbrev P_low_of : List Str := ["layout", "number"]
def tx_low_of : DTS := (dSeq (dSet 2 (dIfE (tV (dOp fGe (dVar 1) (dK (.int 0)))) (dMeth 0 C_Layout_row [] (dVar 0) (aCons (dVar 1) aNil)) (dK .non))) (dRet (dIfE (tV (dIsN (dVar 2))) (dNeg (dK (.int 1))) (dIxK 0 (dVar 2)))))
abbrev N_sources : List Str := ["layout", "span", "least", "most", "low", "high"]
abbrev P_sources : List Str := ["layout", "span"]
def tx_sources : DTS := (dSeq (dDropX (dCallX X_check_span [] (aCons (dVar 1) aNil))) (dSeq (dPar 2 3 false false (dOp fAdd (dCall C_low_of [] (aCons (dVar 0) (aCons (dOp fSub (dIxK 0 (dVar 1)) (dK (.int 1))) aNil))) (dK (.int 1))) (dCall C_low_of [] (aCons (dVar 0) (aCons (dIxK 0 (dVar 1)) aNil)))) (dSeq (dIf (tV (dOp fGt (dVar 2) (dVar 3))) (dRet (dK .non)) dNext) (dSeq (dIf (tV (dIsN (dIxK 1 (dVar 1)))) (dRet (dTup (aCons (dTup (aCons (dVar 2) (aCons (dVar 3) aNil))) (aCons (dK .non) aNil)))) dNext) (dSeq (dPar 4 5 false false (dIxK 1 (dMeth 0 C_Layout_row [] (dVar 0) (aCons (dIxK 1 (dVar 1)) aNil))) (dOp fSub (dIxK 1 (dMeth 0 C_Layout_row [] (dVar 0) (aCons (dOp fAdd (dIxK 1 (dVar 1)) (dK (.int 1))) aNil))) (dK (.int 1)))) (dRet (dIfE (tV (dOp fLe (dVar 4) (dVar 5))) (dTup (aCons (dTup (aCons (dVar 2) (aCons (dVar 3) aNil))) (aCons (dTup (aCons (dVar 4) (aCons (dVar 5) aNil))) aNil))) (dK .non))))))))
end PR
/-! P5: rows by number, sources of spans. -/
namespace PR
open PySem PySem.Spec PyProof.Rows L2 DL
theorem layD_eq (ps : List Pc) : D.obj 0 [.lst (pcsD ps)] = layD ps := rfl
theorem pure_label_at : Pure C_label_at t_label_at N_label_at := by
  rintro ds QD ⟨ps, tu, n, rfl, hl, hn, h2, q⟩
  have c := cut_ok ps n hl hn
  obtain ⟨p, rest, e⟩ : ∃ p rest, (cutF ps n).2 = p :: rest := by
    cases h : (cutF ps n).2 with
    | nil => exact absurd h c.la.ne
    | cons p rest => exact ⟨p, rest, rfl⟩
  have la := c.la
  have bk := c.bk 0 (by omega)
  rw [e] at la bk
  rw [lab_head la, show (0 : Int) + n = n by omega] at bk
  simp [t_label_at, ↓use_cut tu hl hn h2, e]
  rw [bk]
  exact q
theorem purex_Layout_row : PureX X_Layout_row tx_Layout_row N_Layout_row := by
  rintro ds QD QE ⟨ps, n, rfl, hl, h2, q, r⟩
  simp [tx_Layout_row, layD]
  by_cases hn : n < 0
  · simp [hn]
    exact r hn
  · simp [hn]
    exact ⟨ps, false, n, rfl, hl, by omega, h2, by simpa using q (by omega)⟩
theorem purex_low_of : PureX X_low_of tx_low_of N_low_of := by
  rintro ds QD QE ⟨ps, n, rfl, hl, h2, q⟩
  simp [tx_low_of]
  by_cases hn : 0 ≤ n
  · simp only [hn, if_true, use_row hl h2 hn]
    unfold lowF at q
    rw [if_neg (by omega)] at q
    cases e : lab ps n with
    | none => rw [e] at q; simpa using q
    | some x => rw [e] at q; simpa [labD] using q
  · unfold lowF at q
    rw [if_pos (by omega)] at q
    simpa [hn] using q
theorem purex_sources : PureX X_sources tx_sources N_sources := by
  rintro ds QD QE ⟨ps, s, rfl, hw, h2, q, r⟩
  have hl := hw.lay
  simp [tx_sources]
  refine ⟨s, rfl, fun hs => ?_, r⟩
  have q := q hs
  obtain ⟨i, j⟩ := s
  simp [spanD]
  rw [use_low hl h2]
  simp
  rw [use_low hl h2]
  simp
  simp only [srcF] at q
  by_cases c1 : lowF ps (i - 1) + 1 > lowF ps i
  · rw [if_pos c1] at q
    simpa [c1, srcD] using q
  · rw [if_neg c1] at q
    cases j with
    | none => simpa [c1, srcD, pairD] using q
    | some j =>
      simp [Span.ok] at hs
      obtain ⟨i0, ij⟩ := hs
      have n1 := low_nn hw (i - 1)
      obtain ⟨x, hx, x1, x2⟩ := low_lab hw i0 (by omega)
      obtain ⟨y, hy, y1, y2⟩ := lab_mono hw i0 ij hx
      obtain ⟨z, hz, _⟩ := lab_mono hw (show 0 ≤ j by omega) (show j ≤ j + 1 by omega) hy
      have hyh : highF ps j = y.2 := by simp [highF, hy]
      have hzh : highF ps (j + 1) = z.2 := by simp [highF, hz]
      dsimp only at q
      rw [hyh, hzh] at q
      have c1' : ¬ lowF ps i < lowF ps (i - 1) + 1 := c1
      simp [c1', layD_eq]
      rw [use_row hl h2 (by omega), hy]
      simp [labD, layD_eq]
      rw [use_row hl h2 (by omega), hz]
      simp [labD]
      by_cases c2 : y.2 ≤ z.2 - 1
      · rw [if_pos c2] at q
        simpa [c2, srcD, pairD] using q
      · rw [if_neg c2] at q
        simpa [c2, srcD] using q
end PR
/-! PWh: the row of an old row; top rows. -/
namespace PR
open PySem PySem.Spec PyProof.Rows L2 DL
theorem pure_Layout_top : Pure C_Layout_top t_Layout_top N_Layout_top := by
  rintro ds QD ⟨ps, rfl, hl, q⟩
  cases ps with
  | nil => exact absurd rfl hl.ne
  | cons p ps =>
    cases p with
    | top n => simpa [t_Layout_top, layD, pcsD, Pc.d, topF] using q
    | old a b => cases b <;> simpa [t_Layout_top, layD, pcsD, Pc.d, topF] using q
    | new l k n => simpa [t_Layout_top, layD, pcsD, Pc.d, topF] using q
theorem where_rec {E : DEnds} {v : Int} {s0 : Sl} : ∀ (ps : List Pc) (t : Int) (s3 s4 : Sl), Lay ps →
    (∀ r, whG ps t v = some r → E.rt (.v 2 (.int r))) → (whG ps t v = none → ∀ t s3 s4, E.nx [s0, .v 2 (.int v), .v 2 (.int t), s3, s4]) →
    forRec 1 (gN 3) lbx1_Layout_where E (ps.map Pc.d) [s0, .v 2 (.int v), .v 2 (.int t), s3, s4]
  | [], t, s3, s4, h, h1, h2 => by
    exact absurd rfl h.ne
  | p :: ps, t, s3, s4, h, h1, h2 => by
    rcases h.cases with ⟨a, rfl, rfl, ha⟩ | ⟨hv, ho, hl⟩
    · by_cases c : a ≤ v
      · simpa [lbx1_Layout_where_e, Pc.d, c] using h1 _ (by simp [whG, c])
      · have := h2 (by simp [whG, c])
        simp [lbx1_Layout_where_e, Pc.d, c]
        refine ⟨.old a none, rfl, ?_⟩
        simp [Pc.size]
        exact this _ _ _
    · have ih := where_rec (E := E) (v := v) (s0 := s0) ps
      cases p with
      | top n =>
        simp [lbx1_Layout_where_e, Pc.d]
        refine ⟨.top n, rfl, ?_⟩
        simp [Pc.size]
        exact ih _ _ _ hl h1 h2
      | new l k n =>
        simp [lbx1_Layout_where_e, Pc.d]
        refine ⟨.new l k n, rfl, ?_⟩
        simp [Pc.size]
        exact ih _ _ _ hl h1 h2
      | old a b => cases b with
        | none => cases ho
        | some b =>
          by_cases c : a ≤ v ∧ v ≤ b
          · simpa [lbx1_Layout_where_e, Pc.d, c] using h1 _ (by simp [whG, c])
          · simp only [whG, if_neg c] at h1 h2
            have key : C_size_of [.tup [.str "old", .int a, .int b]] (setQ 4 [s0, Sl.v 2 (D.int v), Sl.v 2 (D.int t), Sl.v 2 (D.tup [D.str "old", D.int a, .int b]), s4]
      (dAug 2 iAdd (dIfE (tV (dIsN (dVar 4))) (dK (D.int 0)) (dVar 4))
        { nx := forRec 1 (gN 3) lbx1_Layout_where E (List.map Pc.d ps), rt := E.rt, bk := E.nx,
          ct := forRec 1 (gN 3) lbx1_Layout_where E (List.map Pc.d ps), rb := E.rb, er := E.er })) := by
              refine ⟨.old a (some b), rfl, ?_⟩
              simp [Pc.size]
              exact ih _ _ _ hl h1 h2
            by_cases c1 : a ≤ v
            · have c2 : ¬ v ≤ b := fun z => c ⟨c1, z⟩
              simpa [lbx1_Layout_where_e, Pc.d, c1, c2] using key
            · simpa [lbx1_Layout_where_e, Pc.d, c1] using key
theorem purex_Layout_where : PureX X_Layout_where tx_Layout_where N_Layout_where := by
  rintro ds QD QE ⟨ps, n, rfl, hl, h2, q, r⟩
  simp [tx_Layout_where, layD]
  by_cases hn : n < 0
  · simp [hn]
    exact r hn
  · simp [hn]
    have q := q (by omega)
    refine where_rec ps 0 _ _ hl (fun r e => ?_) fun e t s3 s4 => ?_
    · have e : whF ps n = some r := e
      rw [e] at q
      exact q
    · have e : whF ps n = none := e
      rw [e] at q
      simpa using q
end PR
/-! M6: scripts that may be refused: promises. -/
namespace PR
open PySem PySem.Spec PyProof.Rows L2 DL
def itsD (its : List Itm) : List D := its.map Itm.d
/-- where check_script refuses -/
def badIt : Nat → List Itm → Option Nat
  | _, [] => none
  | n, it :: its => if it.ok then badIt (n + 1) its else some n
theorem badIt_none : ∀ (its : List Itm) (n : Nat), badIt n its = none → ∃ cs : List Cmd, its = cs.map Itm.cmd ∧ ∀ c ∈ cs, c.ok = true
  | [], n, _ => ⟨[], rfl, by simp⟩
  | it :: its, n, h => by
    unfold badIt at h
    cases ho : it.ok with
    | false => rw [ho] at h; simp at h
    | true =>
      rw [ho, if_pos rfl] at h
      obtain ⟨cs, rfl, h2⟩ := badIt_none its (n + 1) h
      cases it with
      | odd o => cases ho
      | cmd c =>
        refine ⟨c :: cs, rfl, fun x hx => ?_⟩
        rcases List.mem_cons.mp hx with rfl | hx
        · exact ho
        · exact h2 x hx
theorem badIt_ok : ∀ (cs : List Cmd) (n : Nat), (∀ c ∈ cs, c.ok = true) → badIt n (cs.map Itm.cmd) = none
  | [], _, _ => rfl
  | c :: cs, n, h => by
    show (if (Itm.cmd c).ok then badIt (n + 1) (cs.map Itm.cmd) else some n) = none
    have : (Itm.cmd c).ok = true := h c (by simp)
    rw [this, if_pos rfl]
    exact badIt_ok cs _ fun x hx => h x (by simp [hx])
theorem cmd_inj : ∀ {cs ds : List Cmd}, cs.map Itm.cmd = ds.map Itm.cmd → cs = ds
  | [], [], _ => rfl
  | [], d :: ds, h => by cases h
  | c :: cs, [], h => by cases h
  | c :: cs, d :: ds, h => by
    injection h with h1 h2
    injection h1 with h1
    rw [h1, cmd_inj h2]
theorem itsD_cmds (cs : List Cmd) : itsD (cs.map Itm.cmd) = cmdsD cs := by simp [itsD, cmdsD, Itm.d]
theorem itsD_inj : ∀ {ps qs : List Itm}, itsD ps = itsD qs ↔ ps = qs
  | [], [] => by simp
  | [], q :: qs => by simp [itsD]
  | p :: ps, [] => by simp [itsD]
  | p :: ps, q :: qs => by
    have ih := itsD_inj (ps := ps) (qs := qs)
    simp only [itsD] at ih
    simp [itsD, ih]
@[simp] theorem imm_its (cs : List Itm) : immAll (itsD cs) = true := by
  induction cs with
  | nil => rfl
  | cons p ps ih => simpa [itsD] using ih
@[simp] theorem itsD_len (its : List Itm) : (itsD its).length = its.length := by simp [itsD]
abbrev eBadCommand (k : Int) : Er := mkEr "BadCommand" ["at"] [.int k]
theorem ok_badcommand (k : Int) : okEr (eBadCommand k) := okEr_1 rfl
def X_check_script : CtrX := fun ds Q R => ∃ (its : List Itm) (tu : Bool), ds = [seqOf tu (itsD its)] ∧ (badIt 0 its = none → Q (.v 2 .non)) ∧ (∀ k : Nat, badIt 0 its = some k → R (eBadCommand k))
def stOk (st : Option (List Pc)) : Prop := ∀ ps, st = some ps → Whole ps ∧ nrm ps ∧ ps.length ≤ 60
def X_run : CtrX := fun ds Q R => ∃ (its : List Itm) (tu : Bool) (st : Option (List Pc)), ds = [seqOf tu (itsD its), stD st] ∧ stOk st ∧ its.length ≤ 420 ∧ (∀ k : Nat, badIt 0 its = some k → R (eBadCommand k)) ∧
  (∀ cs : List Cmd, its = cs.map Itm.cmd → (∀ c ∈ cs, c.ok = true) → (runF (st.getD PLAIN) cs).length ≤ 60 → Q (.v 2 (layD (runF (st.getD PLAIN) cs)))) ∧
  (∀ cs : List Cmd, its = cs.map Itm.cmd → (∀ c ∈ cs, c.ok = true) → 60 < (runF (st.getD PLAIN) cs).length → R eTooMany)
theorem calm_check_script : ∀ ds Q, C_check_script ds Q → X_check_script ds Q fun _ => False := fun ds Q ⟨cs, tu, e, h, q⟩ => ⟨cs.map .cmd, tu, by rw [itsD_cmds]; exact e, fun _ => q, fun k z => by rw [badIt_ok cs 0 h] at z; cases z⟩
theorem calm_run : ∀ ds Q, C_run ds Q → X_run ds Q fun _ => False := fun ds Q ⟨cs, tu, st, e, h, hst, hl, h60, q⟩ =>
  ⟨cs.map .cmd, tu, st, by rw [itsD_cmds]; exact e, hst, by simpa using hl, fun k z => (by rw [badIt_ok cs 0 h] at z; cases z), fun cs' e' _ _ => (by rw [← cmd_inj e']; exact q), fun cs' e' _ z => (by rw [← cmd_inj e'] at z; omega)⟩
end PR
/-! MWk: scripts walked over lists of labels, drawn items that are no commands: promises. -/
namespace PR
open PySem PySem.Spec PyProof.Rows L2 DL
def C__law_step : Ctr := fun ds Q => ∃ (rows : List (Option Lab)) (c : Cmd), ds = [.lst (rows.map oL), c.d] ∧ c.near rows.length ∧ rows.Pairwise ole ∧ rows.length ≤ 100000 ∧ (∀ i m, c = .ins i m → m < 1000) ∧ Q (.own ((stepR rows c).map oL))
def C__law_walk : Ctr := fun ds Q => ∃ (cs : List Cmd) (n : Nat), ds = [.lst (cmdsD cs), .int n] ∧ nearAll n cs ∧ 1 ≤ n ∧ n ≤ 1000 ∧ (∀ j, j ≤ cs.length → lenAll n (cs.take j) ≤ 100000) ∧ (∀ c ∈ cs, ∀ i m, c = .ins i m → m < 1000) ∧ Q (.v 2 (.lst ((cs.foldl stepR (olds 0 n)).map oL)))
def C__law_is_layout : Ctr := fun ds Q => ∃ (rows : List (Option Lab)) (ps : List Pc) (v : Int), ds = [layD ps, .lst (rows.map oL)] ∧ Lays rows ps v ∧ rows.length < 1000 ∧ ps.length < 1000 ∧ Q (.v 2 (.bl true))
def oI : Option Nat → D
  | none => .non
  | some k => .int k
def C__law_due_command : Ctr := fun ds Q => ∃ its : List Itm, ds = [.lst (itsD its)] ∧ its.length < 1000 ∧ Q (.v 2 (oI (badIt 0 its)))
def C__law_odd_command : Ctr := fun ds Q => ds = [.bag] ∧ ∀ it : Itm, it.ok = false → Q (.v 2 it.d)
def C2__law_of : Ctr := fun ds Q => match ds with
  | [.bag, .lst es] => 0 < es.length ∧ es.length < 1073741824 ∧ ∀ d ∈ es, Q (.v 2 d)
  | _ => False
theorem C2_of_len (ds : List D) (Q : Sl → Prop) (h : C2__law_of ds Q) : ds.length = 2 := by
  unfold C2__law_of at h
  split at h
  · rfl
  · exact h.elim
/-! plain facts -/
theorem held_olds (n : Nat) : Held (olds 0 n) plainf := fun k hk => by
  rw [olds_len] at hk
  simp only [olds, List.getElem?_map]
  rw [List.getElem?_range hk]
  simp [plainf]
theorem ord_of {rows : List (Option Lab)} {f : Rf} (g : Good f) (h : Held rows f) : rows.Pairwise ole := List.pairwise_iff_getElem.mpr fun i j hi hj hij => by
  have h1 := h i hi
  have h2 := h j hj
  rw [List.getElem?_eq_getElem (by omega)] at h1 h2
  injection h1 with h1
  injection h2 with h2
  rw [h1, h2]
  exact g.mono i j (by omega) (by omega)
/-- the layout of a walked script -/
theorem walk_lays {cs : List Cmd} {n : Nat} (hn : nearAll n cs) (h1 : 1 ≤ n) : Lays (cs.foldl stepR (olds 0 n)) (runF PLAIN cs) ((n : Int) - 1) ∧ (cs.foldl stepR (olds 0 n)).length = lenAll n cs ∧ (runF PLAIN cs).length ≤ 1 + 2 * cs.length := by
  have ok := nearAll_ok cs n hn
  obtain ⟨r1, r2, r3, r4⟩ := runF_ok cs PLAIN plain_whole trivial ok
  have pl : ∀ r, 0 ≤ r → lab (runF PLAIN cs) r = (cs.foldl cmdL plainf) r := by
    intro r hr
    rw [r3 r hr]
    have : lab PLAIN = plainf := by funext r; exact lab_plain r
    rw [this]
  obtain ⟨w1, w2, w3, w4⟩ := walkR cs plainf (olds 0 n) n plain_good (held_olds n) (by rw [olds_len]; exact plain_tail n h1) (by rw [olds_len]; exact hn)
  rw [olds_len] at w4
  have t1 := w3.1
  refine ⟨⟨r1, r2, ?_, fun k hk => ?_, t1, fun i hi => ?_⟩, w4, by simpa [PLAIN] using r4⟩
  · rw [List.getLast?_eq_getElem?, w2 _ (by omega), w3.2 _ (by omega)]
    simp
    omega
  · rw [w2 k hk, pl k (by omega)]
  · rw [pl i (by omega), w3.2 i hi]
    simp
theorem take_walk {cs : List Cmd} {n : Nat} (hn : nearAll n cs) (h1 : 1 ≤ n) {pre post : List Cmd} (e : cs = pre ++ post) : (pre.foldl stepR (olds 0 n)).Pairwise ole ∧ (pre.foldl stepR (olds 0 n)).length = lenAll n pre ∧ nearAll (lenAll n pre) post := by
  rw [e] at hn
  obtain ⟨h2, h3⟩ := (nearAll_app pre post n).mp hn
  obtain ⟨L, l, _⟩ := walk_lays h2 h1
  exact ⟨ord_of L.wh.good L.held, l, h3⟩
end PR
/-! TWk: scripts walked over lists of labels: readings (printed by mkt.py). -/
namespace PR
open PySem PySem.Spec PyProof.Rows L2 DL
abbrev N__law_step : List Str := ["_law_rows", "_law_command_here", "_law_word", "_law_one", "_law_other", "_law_above", "_law_label"]
abbrev P__law_step : List Str := ["_law_rows", "_law_command_here"]
def t__law_step : DTS := (dSeq (dAsg (dVar 1) (gT 3 (gsCons (gN 2) (gsCons (gN 3) (gsCons (gN 4) gsNil))))) (dSeq (dIf (tV (dOp fEq (dVar 2) (dK (.str "delete")))) (dRet (dOp fAdd (dSl (dVar 0) oNone (oSome (dVar 3))) (dSl (dVar 0) (oSome (dOp fAdd (dVar 4) (dK (.int 1)))) oNone))) dNext) (dSeq (dSet 5 (dIfE (tV (dOp fGt (dVar 3) (dK (.int 0)))) (dOp fIx (dVar 0) (dOp fSub (dVar 3) (dK (.int 1)))) (dK .non))) (dSeq (dSet 6 (dIfE (tV (dIsN (dVar 5))) (dK .non) (dTup (aCons (dIxK 0 (dVar 5)) (aCons (dIxK 1 (dOp fIx (dVar 0) (dVar 3))) aNil))))) (dRet (dOp fAdd (dOp fAdd (dSl (dVar 0) oNone (oSome (dVar 3))) (dOp fMul (dLst (aCons (dVar 6) aNil)) (dVar 4))) (dSl (dVar 0) (oSome (dVar 3)) oNone)))))))
abbrev N__law_walk : List Str := ["_law_script_here", "_law_size", "_law_rows", "_law_command_here", "_law_row"]
abbrev P__law_walk : List Str := ["_law_script_here", "_law_size"]
def le1__law_walk : DTE := (dTup (aCons (dVar 4) (aCons (dVar 4) aNil)))
theorem le1__law_walk_e (τ : DSt) (Q : Sl → Prop) : le1__law_walk τ Q = (dTup (aCons (dVar 4) (aCons (dVar 4) aNil))) τ Q := rfl
def lb2__law_walk : DTS := (dSet 2 (dCall C__law_step [] (aCons (dVar 2) (aCons (dVar 3) aNil))))
theorem lb2__law_walk_e (E : DEnds) (τ : DSt) : lb2__law_walk E τ = (dSet 2 (dCall C__law_step [] (aCons (dVar 2) (aCons (dVar 3) aNil)))) E τ := rfl
def t__law_walk : DTS := (dSeq (dSet 2 (dLcR (aCons (dVar 1) aNil) (gN 4) tYesD le1__law_walk [4])) (dSeq (dFor (dVar 0) (gN 3) lb2__law_walk) (dRet (dVar 2))))
abbrev N__law_is_layout : List Str := ["_law_layout", "_law_rows"]
abbrev P__law_is_layout : List Str := ["_law_layout", "_law_rows"]
def t__law_is_layout : DTS := (dRet (dCall C__law_like [] (aCons (dMeth 0 C_Layout_pieces [] (dVar 0) aNil) (aCons (dCall C__law_rolled [] (aCons (dVar 1) aNil)) aNil))))
abbrev N__law_due_command : List Str := ["_law_script_here", "_law_k", "_law_command_here"]
abbrev P__law_due_command : List Str := ["_law_script_here"]
def lb1__law_due_command : DTS := (dSeq (dSet 2 (dOp fIx (dVar 0) (dVar 1))) (dSeq (dIf (tvOr (tV (dOp fNe (dCB fLen (aCons (dVar 2) aNil)) (dK (.int 3)))) (tV (dOp fNotInF (dIxK 0 (dVar 2)) (dTup (aCons (dK (.str "insert")) (aCons (dK (.str "delete")) aNil)))))) (dRet (dVar 1)) dNext) (dSeq (dIf (tvAnd (tV (dOp fEq (dIxK 0 (dVar 2)) (dK (.str "insert")))) (tvOr (tV (dOp fLt (dIxK 1 (dVar 2)) (dK (.int 0)))) (tV (dOp fLt (dIxK 2 (dVar 2)) (dK (.int 1)))))) (dRet (dVar 1)) dNext) (dIf (tvAnd (tV (dOp fEq (dIxK 0 (dVar 2)) (dK (.str "delete")))) (tvNot (tV (dChain pLe pLe (dK (.int 0)) (dIxK 1 (dVar 2)) (dIxK 2 (dVar 2)))))) (dRet (dVar 1)) dNext))))
theorem lb1__law_due_command_e (E : DEnds) (τ : DSt) : lb1__law_due_command E τ = (dSeq (dSet 2 (dOp fIx (dVar 0) (dVar 1))) (dSeq (dIf (tvOr (tV (dOp fNe (dCB fLen (aCons (dVar 2) aNil)) (dK (.int 3)))) (tV (dOp fNotInF (dIxK 0 (dVar 2)) (dTup (aCons (dK (.str "insert")) (aCons (dK (.str "delete")) aNil)))))) (dRet (dVar 1)) dNext) (dSeq (dIf (tvAnd (tV (dOp fEq (dIxK 0 (dVar 2)) (dK (.str "insert")))) (tvOr (tV (dOp fLt (dIxK 1 (dVar 2)) (dK (.int 0)))) (tV (dOp fLt (dIxK 2 (dVar 2)) (dK (.int 1)))))) (dRet (dVar 1)) dNext) (dIf (tvAnd (tV (dOp fEq (dIxK 0 (dVar 2)) (dK (.str "delete")))) (tvNot (tV (dChain pLe pLe (dK (.int 0)) (dIxK 1 (dVar 2)) (dIxK 2 (dVar 2)))))) (dRet (dVar 1)) dNext)))) E τ := rfl
def t__law_due_command : DTS := (dSeq (dForR (aCons (dCB fLen (aCons (dVar 0) aNil)) aNil) (gN 1) lb1__law_due_command) (dRet (dK .non)))
abbrev N__law_odd_command : List Str := ["_law_bag_here", "_law_odd"]
abbrev P__law_odd_command : List Str := ["_law_bag_here"]
def t__law_odd_command : DTS := (dSeq (dSetO 1 (dLst (aCons (dTup (aCons (dK (.str "insert")) (aCons (dNeg (dK (.int 1))) (aCons (dK (.int 1)) aNil)))) (aCons (dTup (aCons (dK (.str "insert")) (aCons (dK (.int 2)) (aCons (dK (.int 0)) aNil)))) (aCons (dTup (aCons (dK (.str "insert")) (aCons (dK (.int 2)) (aCons (dNeg (dK (.int 3))) aNil)))) (aCons (dTup (aCons (dK (.str "delete")) (aCons (dK (.int 3)) (aCons (dK (.int 2)) aNil)))) (aCons (dTup (aCons (dK (.str "delete")) (aCons (dNeg (dK (.int 1))) (aCons (dK (.int 2)) aNil)))) (aCons (dTup (aCons (dK (.str "move")) (aCons (dK (.int 1)) (aCons (dK (.int 2)) aNil)))) aNil)))))))) (dSeq (dSetO 1 (dOp fAdd (dVar 1) (dLst (aCons (dTup (aCons (dK (.str "insert")) (aCons (dK (.int 1)) aNil))) (aCons (dTup aNil) (aCons (dTup (aCons (dK (.str "Insert")) (aCons (dK (.int 1)) (aCons (dK (.int 1)) aNil)))) (aCons (dTup (aCons (dK (.str "delete")) (aCons (dK (.int 0)) (aCons (dK (.int 0)) (aCons (dK (.int 0)) aNil))))) (aCons (dTup (aCons (dK (.str "delete")) aNil)) (aCons (dTup (aCons (dK (.str "")) (aCons (dK (.int 1)) (aCons (dK (.int 1)) aNil)))) aNil))))))))) (dSeq (dApp 1 (dTup (aCons (dK (.str "insert")) (aCons (dK (.int 0)) (aCons (dNeg (dOp fPow (dK (.int 10)) (dK (.int 20)))) aNil))))) (dRet (dCall C__law_of [] (aCons (dVar 0) (aCons (dVar 1) aNil)))))))
end PR
/-! TN: nearly the same rows, claimed differences: readings (printed by mkt.py). -/
namespace PR
open PySem PySem.Spec PyProof.Rows L2 DL
abbrev N_is_difference : List Str := ["one", "other", "claimed"]
abbrev P_is_difference : List Str := ["one", "other", "claimed"]
def t_is_difference : DTS := (dRet (vAnd (dCall C_is_span [] (aCons (dVar 2) aNil)) (dOp fNe (dCall C_carried [] (aCons (dVar 0) (aCons (dVar 2) aNil))) (dCall C_carried [] (aCons (dVar 1) (aCons (dVar 2) aNil))))))
abbrev N__law_far : List Str := ["_law_bag_here"]
abbrev P__law_far : List Str := ["_law_bag_here"]
def t__law_far : DTS := (dRet (dOp fAdd (dCall C__law_of [] (aCons (dVar 0) (aCons (dLst (aCons (dOp fPow (dK (.int 10)) (dK (.int 6))) (aCons (dOp fPow (dK (.int 10)) (dK (.int 18))) (aCons (dOp fPow (dK (.int 10)) (dK (.int 29))) aNil)))) aNil))) (dCall C__law_pull [] (aCons (dVar 0) (aCons (dOp fPow (dK (.int 10)) (dK (.int 6))) aNil)))))
abbrev N__law_bad_spans : List Str := ["_law_bag_here"]
abbrev P__law_bad_spans : List Str := ["_law_bag_here"]
def t__law_bad_spans : DTS := (dRet (dCall C__law_of [] (aCons (dVar 0) (aCons (dLst (aCons (dTup (aCons (dNeg (dK (.int 1))) (aCons (dK (.int 2)) aNil))) (aCons (dTup (aCons (dK (.int 3)) (aCons (dK (.int 2)) aNil))) (aCons (dTup (aCons (dNeg (dK (.int 1))) (aCons (dK .non) aNil))) (aCons (dTup (aCons (dOp fPow (dK (.int 10)) (dK (.int 20))) (aCons (dK (.int 5)) aNil))) (aCons (dTup (aCons (dK (.int 0)) (aCons (dNeg (dK (.int 1))) aNil))) aNil)))))) aNil))))
abbrev N__law_changed_rows : List Str := ["_law_bag_here", "_law_rows", "_law_way", "_law_at", "_law_above", "_law_gone", "_law_label", "_law_twice"]
abbrev P__law_changed_rows : List Str := ["_law_bag_here", "_law_rows"]
def t__law_changed_rows : DTS := (dSeq (dPar 2 3 false false (dCall C__law_pull [] (aCons (dVar 0) (aCons (dK (.int 5)) aNil))) (dCall C__law_pull [] (aCons (dVar 0) (aCons (dCB fMax (aCons (dK (.int 1)) (aCons (dOp fSub (dCB fLen (aCons (dVar 1) aNil)) (dK (.int 8))) aNil))) aNil)))) (dSeq (dIf (tV (dOp fEq (dVar 2) (dK (.int 0)))) (dRet (dOp fAdd (dSl (dVar 1) oNone (oSome (dVar 3))) (dSl (dVar 1) (oSome (dOp fAdd (dVar 3) (dK (.int 1)))) oNone))) dNext) (dSeq (dIf (tV (dOp fEq (dVar 2) (dK (.int 1)))) (dSeq (dSet 7 (vOr (dIsN (dOp fIx (dVar 1) (dVar 3))) (dOp fLt (dIxK 0 (dOp fIx (dVar 1) (dVar 3))) (dIxK 1 (dOp fIx (dVar 1) (dVar 3)))))) (dRet (dOp fAdd (dOp fAdd (dSl (dVar 1) oNone (oSome (dVar 3))) (dOp fMul (dLst (aCons (dOp fIx (dVar 1) (dVar 3)) aNil)) (dOp fAdd (dK (.int 1)) (dCB fInt (aCons (dVar 7) aNil))))) (dSl (dVar 1) (oSome (dOp fAdd (dVar 3) (dK (.int 1)))) oNone)))) dNext) (dSeq (dIf (tV (dOp fEq (dVar 2) (dK (.int 2)))) (dRet (dOp fAdd (dLst (aCons (dK .non) aNil)) (dVar 1))) dNext) (dSeq (dPar 4 5 false false (dIfE (tV (dOp fGt (dVar 3) (dK (.int 0)))) (dOp fIx (dVar 1) (dOp fSub (dVar 3) (dK (.int 1)))) (dK .non)) (dOp fSub (dVar 2) (dK (.int 3)))) (dSeq (dSet 6 (dIfE (tV (dIsN (dVar 4))) (dK .non) (dTup (aCons (dIxK 0 (dVar 4)) (aCons (dIxK 1 (dOp fIx (dVar 1) (dOp fAdd (dVar 3) (dVar 5)))) aNil))))) (dRet (dOp fAdd (dOp fAdd (dSl (dVar 1) oNone (oSome (dVar 3))) (dLst (aCons (dVar 6) aNil))) (dSl (dVar 1) (oSome (dOp fAdd (dVar 3) (dVar 5))) oNone)))))))))
abbrev N__law_carried_due : List Str := ["_law_rows", "_law_pair", "_law_size", "_law_last", "_law_inside", "_law_first", "_law_ends", "_law_end", "_law_k"]
abbrev P__law_carried_due : List Str := ["_law_rows", "_law_pair"]
def lt1__law_carried_due : DTT := (tvAnd (tV (dNotN (dOp fIx (dVar 0) (dVar 8)))) (tV (dOp fLe (dIxK 0 (dVar 1)) (dIxK 0 (dOp fIx (dVar 0) (dVar 8))))))
theorem lt1__law_carried_due_e (τ : DSt) (Q : Bool → Prop) : lt1__law_carried_due τ Q = (tvAnd (tV (dNotN (dOp fIx (dVar 0) (dVar 8)))) (tV (dOp fLe (dIxK 0 (dVar 1)) (dIxK 0 (dOp fIx (dVar 0) (dVar 8)))))) τ Q := rfl
def le2__law_carried_due : DTE := (dVar 8)
theorem le2__law_carried_due_e (τ : DSt) (Q : Sl → Prop) : le2__law_carried_due τ Q = (dVar 8) τ Q := rfl
def lt3__law_carried_due : DTT := (tvOr (tV (dIsN (dOp fIx (dVar 0) (dVar 8)))) (tV (dOp fLe (dIxK 1 (dOp fIx (dVar 0) (dVar 8))) (dIxK 1 (dVar 1)))))
theorem lt3__law_carried_due_e (τ : DSt) (Q : Bool → Prop) : lt3__law_carried_due τ Q = (tvOr (tV (dIsN (dOp fIx (dVar 0) (dVar 8)))) (tV (dOp fLe (dIxK 1 (dOp fIx (dVar 0) (dVar 8))) (dIxK 1 (dVar 1))))) τ Q := rfl
def le4__law_carried_due : DTE := (dVar 8)
theorem le4__law_carried_due_e (τ : DSt) (Q : Sl → Prop) : le4__law_carried_due τ Q = (dVar 8) τ Q := rfl
def t__law_carried_due : DTS := (dSeq (dPar 2 3 false false (dCB fLen (aCons (dVar 0) aNil)) (dIxK 0 (dIxL (dVar 0)))) (dSeq (dSet 4 (dLcR (aCons (dVar 2) aNil) (gN 8) lt1__law_carried_due le2__law_carried_due [8])) (dSeq (dSet 5 (dIfE (tV (dOp fNe (dVar 4) (dLst aNil))) (dIxK 0 (dVar 4)) (dOp fSub (dOp fAdd (dOp fSub (dVar 2) (dK (.int 1))) (dIxK 0 (dVar 1))) (dVar 3)))) (dSeq (dIf (tV (dIsN (dIxK 1 (dVar 1)))) (dRet (dTup (aCons (dVar 5) (aCons (dK .non) aNil)))) dNext) (dSeq (dSet 6 (dLcR (aCons (dVar 2) aNil) (gN 8) lt3__law_carried_due le4__law_carried_due [8])) (dSeq (dSet 7 (dIfE (tV (dOp fGe (dIxK 1 (dVar 1)) (dVar 3))) (dOp fSub (dOp fAdd (dOp fSub (dVar 2) (dK (.int 1))) (dIxK 1 (dVar 1))) (dVar 3)) (dIxL (dOp fAdd (dLst (aCons (dNeg (dK (.int 1))) aNil)) (dVar 6))))) (dRet (dIfE (tV (dOp fLe (dVar 5) (dVar 7))) (dTup (aCons (dVar 5) (aCons (dVar 7) aNil))) (dK .non)))))))))
abbrev N__law_one_length : List Str := ["_law_one", "_law_other", "_law_last", "_law_row"]
abbrev P__law_one_length : List Str := ["_law_one", "_law_other"]
def le1__law_one_length : DTE := (dTup (aCons (dVar 3) (aCons (dVar 3) aNil)))
theorem le1__law_one_length_e (τ : DSt) (Q : Sl → Prop) : le1__law_one_length τ Q = (dTup (aCons (dVar 3) (aCons (dVar 3) aNil))) τ Q := rfl
def le2__law_one_length : DTE := (dTup (aCons (dVar 3) (aCons (dVar 3) aNil)))
theorem le2__law_one_length_e (τ : DSt) (Q : Sl → Prop) : le2__law_one_length τ Q = (dTup (aCons (dVar 3) (aCons (dVar 3) aNil))) τ Q := rfl
def t__law_one_length : DTS := (dSeq (dSet 2 (dCB fMax (aCons (dIxK 0 (dIxL (dVar 0))) (aCons (dIxK 0 (dIxL (dVar 1))) aNil)))) (dSeq (dSet 0 (dOp fAdd (dVar 0) (dLcR2 (aCons (dOp fAdd (dIxK 0 (dIxL (dVar 0))) (dK (.int 1))) (aCons (dOp fAdd (dVar 2) (dK (.int 1))) aNil)) (gN 3) tYesD le1__law_one_length [3]))) (dRet (dTup (aCons (dVar 0) (aCons (dOp fAdd (dVar 1) (dLcR2 (aCons (dOp fAdd (dIxK 0 (dIxL (dVar 1))) (dK (.int 1))) (aCons (dOp fAdd (dVar 2) (dK (.int 1))) aNil)) (gN 3) tYesD le2__law_one_length [3])) aNil))))))
end PR
/-! TS: the readings of drawn scripts, followed spans (printed by mkt.py). -/
namespace PR
open PySem PySem.Spec PyProof.Rows L2 DL
abbrev N__law_command : List Str := ["_law_bag_here", "_law_far", "_law_at"]
abbrev P__law_command : List Str := ["_law_bag_here", "_law_far"]
def t__law_command : DTS := (dSeq (dSet 2 (dCall C__law_pull [] (aCons (dVar 0) (aCons (dCall C__law_of [] (aCons (dVar 0) (aCons (dLst (aCons (dK (.int 4)) (aCons (dK (.int 9)) (aCons (dVar 1) aNil)))) aNil))) aNil)))) (dSeq (dIf (tV (dOp fEq (dCall C__law_pull [] (aCons (dVar 0) (aCons (dK (.int 2)) aNil))) (dK (.int 0)))) (dRet (dTup (aCons (dK (.str "insert")) (aCons (dVar 2) (aCons (dCall C__law_of [] (aCons (dVar 0) (aCons (dLst (aCons (dK (.int 1)) (aCons (dK (.int 1)) (aCons (dK (.int 2)) (aCons (dK (.int 3)) aNil))))) aNil))) aNil))))) dNext) (dRet (dTup (aCons (dK (.str "delete")) (aCons (dVar 2) (aCons (dOp fAdd (dVar 2) (dCall C__law_of [] (aCons (dVar 0) (aCons (dLst (aCons (dK (.int 0)) (aCons (dK (.int 0)) (aCons (dK (.int 1)) (aCons (dK (.int 3)) aNil))))) aNil)))) aNil)))))))
abbrev N__law_script : List Str := ["_law_bag_here", "_law_most", "_law_k"]
abbrev P__law_script : List Str := ["_law_bag_here", "_law_most"]
def le1__law_script : DTE := (dCall C__law_command [] (aCons (dVar 0) (aCons (dK (.int 12)) aNil)))
theorem le1__law_script_e (τ : DSt) (Q : Sl → Prop) : le1__law_script τ Q = (dCall C__law_command [] (aCons (dVar 0) (aCons (dK (.int 12)) aNil))) τ Q := rfl
def t__law_script : DTS := (dRet (dLcR (aCons (dCall C__law_pull [] (aCons (dVar 0) (aCons (dOp fAdd (dVar 1) (dK (.int 1))) aNil))) aNil) (gN 2) tYesD le1__law_script [2]))
abbrev N__law_spans : List Str := ["_law_size", "_law_found", "_law_a", "_law_b"]
abbrev P__law_spans : List Str := ["_law_size"]
def le1__law_spans : DTE := (dTup (aCons (dVar 2) (aCons (dVar 3) aNil)))
theorem le1__law_spans_e (τ : DSt) (Q : Sl → Prop) : le1__law_spans τ Q = (dTup (aCons (dVar 2) (aCons (dVar 3) aNil))) τ Q := rfl
def lb2__law_spans : DTS := (dSet 1 (dOp fAdd (dVar 1) (dLcR2 (aCons (dVar 2) (aCons (dVar 0) aNil)) (gN 3) tYesD le1__law_spans [3])))
theorem lb2__law_spans_e (E : DEnds) (τ : DSt) : lb2__law_spans E τ = (dSet 1 (dOp fAdd (dVar 1) (dLcR2 (aCons (dVar 2) (aCons (dVar 0) aNil)) (gN 3) tYesD le1__law_spans [3]))) E τ := rfl
def t__law_spans : DTS := (dSeq (dSet 1 (dLst aNil)) (dSeq (dForR (aCons (dVar 0) aNil) (gN 2) lb2__law_spans) (dRet (dVar 1))))
abbrev N__law_followed : List Str := ["_law_script_here", "_law_size", "_law_a", "_law_b", "_law_rows", "_law_word", "_law_one", "_law_other", "_law_inside", "_law_both", "_law_row", "_law_k"]
abbrev P__law_followed : List Str := ["_law_script_here", "_law_size", "_law_a", "_law_b"]
def le1__law_followed : DTE := (dChain pLe pLe (dVar 2) (dVar 10) (dVar 3))
theorem le1__law_followed_e (τ : DSt) (Q : Sl → Prop) : le1__law_followed τ Q = (dChain pLe pLe (dVar 2) (dVar 10) (dVar 3)) τ Q := rfl
def lb2__law_followed : DTS := (dIf (tV (dOp fEq (dVar 5) (dK (.str "delete")))) (dSet 4 (dOp fAdd (dSl (dVar 4) oNone (oSome (dVar 6))) (dSl (dVar 4) (oSome (dOp fAdd (dVar 7) (dK (.int 1)))) oNone))) (dSeq (dSet 9 (vAnd (dOp fGt (dVar 6) (dK (.int 0))) (vAnd (dOp fIx (dVar 4) (dOp fSub (dVar 6) (dK (.int 1)))) (dOp fIx (dVar 4) (dVar 6))))) (dSet 4 (dOp fAdd (dOp fAdd (dSl (dVar 4) oNone (oSome (dVar 6))) (dOp fMul (dLst (aCons (dVar 9) aNil)) (dVar 7))) (dSl (dVar 4) (oSome (dVar 6)) oNone)))))
theorem lb2__law_followed_e (E : DEnds) (τ : DSt) : lb2__law_followed E τ = (dIf (tV (dOp fEq (dVar 5) (dK (.str "delete")))) (dSet 4 (dOp fAdd (dSl (dVar 4) oNone (oSome (dVar 6))) (dSl (dVar 4) (oSome (dOp fAdd (dVar 7) (dK (.int 1)))) oNone))) (dSeq (dSet 9 (vAnd (dOp fGt (dVar 6) (dK (.int 0))) (vAnd (dOp fIx (dVar 4) (dOp fSub (dVar 6) (dK (.int 1)))) (dOp fIx (dVar 4) (dVar 6))))) (dSet 4 (dOp fAdd (dOp fAdd (dSl (dVar 4) oNone (oSome (dVar 6))) (dOp fMul (dLst (aCons (dVar 9) aNil)) (dVar 7))) (dSl (dVar 4) (oSome (dVar 6)) oNone))))) E τ := rfl
def lt3__law_followed : DTT := (tV (dOp fIx (dVar 4) (dVar 11)))
theorem lt3__law_followed_e (τ : DSt) (Q : Bool → Prop) : lt3__law_followed τ Q = (tV (dOp fIx (dVar 4) (dVar 11))) τ Q := rfl
def le4__law_followed : DTE := (dVar 11)
theorem le4__law_followed_e (τ : DSt) (Q : Sl → Prop) : le4__law_followed τ Q = (dVar 11) τ Q := rfl
def t__law_followed : DTS := (dSeq (dSet 4 (dLcR (aCons (dVar 1) aNil) (gN 10) tYesD le1__law_followed [10])) (dSeq (dFor (dVar 0) (gT 3 (gsCons (gN 5) (gsCons (gN 6) (gsCons (gN 7) gsNil)))) lb2__law_followed) (dSeq (dSet 8 (dLcR (aCons (dCB fLen (aCons (dVar 4) aNil)) aNil) (gN 11) lt3__law_followed le4__law_followed [11])) (dRet (dIfE (tV (dOp fNe (dVar 8) (dLst aNil))) (dTup (aCons (dIxK 0 (dVar 8)) (aCons (dIxL (dVar 8)) aNil))) (dK .non))))))
end PR
/-! PS: drawn scripts, followed spans: what the readings do. -/
namespace PR
open PySem PySem.Spec PyProof.Rows L2 DL
theorem pure__law_command : Pure C__law_command t__law_command N__law_command := by
  rintro ds QD ⟨far, rfl, h1, h2, q⟩
  simp [t__law_command]
  refine of_ints [4, 9, far] 4 far (fun i i1 i2 => ?_) (by simp) (by simp) (by simp; omega)
  refine use_pull (n := i) (by omega) (by omega) fun a a1 a2 => ?_
  simp
  refine use_pull (n := 2) (by decide) (by decide) fun k k1 k2 => ?_
  by_cases hk : k = 0
  · simp [hk]
    refine of_ints [1, 1, 2, 3] 1 3 fun n n1 n2 => ?_
    simpa [Cmd.d] using q (.ins a n) ⟨a1, by omega, n1, n2⟩
  · simp [hk]
    refine of_ints [0, 0, 1, 3] 0 3 fun n n1 n2 => ?_
    simpa [Cmd.d] using q (.del a (a + n)) ⟨a1, by omega, by omega, by omega⟩
theorem pure__law_script : Pure C__law_script t__law_script N__law_script := by
  rintro ds QD ⟨most, rfl, h1, q⟩
  simp [t__law_script]
  refine use_pull (n := (most : Int) + 1) (by omega) (by omega) fun m m1 m2 => ?_
  simp [-rangeL]
  refine ⟨by omega, ?_⟩
  refine comp_draw Cmd.d (Drawn 12) (n := m.toNat) (by omega) (fun k acc C hk ha hC => ?_) fun cs h1 h2 => ?_
  · simp [le1__law_script_e, ha]
    exact ⟨12, rfl, by decide, by decide, fun c hc => by simpa using hC c hc⟩
  · simpa [cmdsD] using q cs (by omega) h2
theorem pure__law_spans : Pure C__law_spans t__law_spans N__law_spans := by
  rintro ds QD ⟨n, rfl, h1, q⟩
  simp [t__law_spans, -rangeL]
  refine ⟨by omega, ?_⟩
  refine for_rng (fun k τ => ∃ s2 s3, τ = [.v 2 (.int n), .v 2 (.lst (((List.range k).flatMap fun a => (List.range (n - a)).map fun k => ((a : Int), some ((a + k : Nat) : Int))).map spanD)), s2, s3]) ⟨_, _, rfl⟩ (fun k τ E' hk _ _ _ hE _ h => ?_) fun τ h => ?_
  · obtain ⟨s2, s3, rfl⟩ := h
    have hlen : ∀ k, k ≤ 50 → ((List.range k).flatMap fun a => (List.range (n - a)).map fun k => ((a : Int), some ((a + k : Nat) : Int))).length ≤ k * 50 := by
      intro k
      induction k with
      | zero => intro _; simp
      | succ k ih =>
        intro hk
        have := ih (by omega)
        rw [List.range_succ, List.flatMap_append, List.length_append]
        simp at this ⊢
        omega
    have hl := hlen k (by omega)
    simp [lb2__law_spans_e, -rangeL]
    refine ⟨⟨by omega, by omega⟩, ?_⟩
    refine comp_range (fun j => some (spanD ((k : Int), some ((k + j : Nat) : Int)))) (n := n - k) (by omega) (fun j hj acc C ha hC => ?_) ?_
    · simpa [le1__law_spans_e, ha, spanD] using hC
    · simp
      refine ⟨?_, ?_⟩
      · simp at hl
        omega
      · have := hE _ ⟨.v 2 (.int k), s3, rfl⟩
        rw [List.range_succ, List.flatMap_append] at this
        simpa [Function.comp_def] using this
  · obtain ⟨s2, s3, rfl⟩ := h
    simpa [spansL] using q
/-! ### followed -/
theorem bool_len (n : Nat) (a b : Int) : (boolRows n a b).length = n := by simp [boolRows]
theorem blD_len (rows : List Bool) : (rows.map D.bl).length = rows.length := by simp
theorem cut_map {α : Type} (f : α → D) (xs : List α) (l h : Option Int) : cutG (xs.map f) l h = (cutG xs l h).map f := by
  unfold cutG
  rw [List.map_take, List.map_drop, List.length_map]
@[simp] theorem imm_bls (xs : List Bool) : immAll (xs.map D.bl) = true := by
  induction xs with
  | nil => rfl
  | cons p ps ih => simpa using ih
theorem lenAll_take {n : Nat} {cs pre post : List Cmd} {c : Cmd} (e : cs = pre ++ c :: post) : lenAll n pre = lenAll n (cs.take pre.length) := by rw [e]; simp
theorem fold_len : ∀ (cs : List Cmd) (rows : List Bool), nearAll rows.length cs → (cs.foldl stepB rows).length = lenAll rows.length cs
  | [], _, _ => rfl
  | c :: cs, rows, n => by
    have h2 : (stepB rows c).length = c.len rows.length := by
      cases c with
      | ins i k =>
        obtain ⟨c1, c2, c3⟩ := n.1
        have := putIn_len (rows := rows) (i := i) (n := k) (m := bothB rows i) (by omega) c1 (by omega)
        show (putIn rows i k (bothB rows i)).length = rows.length + k.toNat
        omega
      | del a b =>
        obtain ⟨c1, c2, c3⟩ := n.1
        have := cutOut_len (rows := rows) c1 c2 (by omega)
        show (cutOut rows a b).length = rows.length - (b - a + 1).toNat
        omega
    have n2 := n.2
    rw [← h2] at n2
    rw [List.foldl_cons, fold_len cs _ n2, h2]
    rfl
theorem repl_flat (x : D) : ∀ k : Nat, (List.replicate k [x]).flatten = List.replicate k x
  | 0 => rfl
  | k + 1 => by rw [List.replicate_succ, List.flatten_cons, repl_flat x k, List.replicate_succ]; rfl
@[simp] theorem lays_ints (xs : List Int) : lays (xs.map D.int) = true := by
  induction xs with
  | nil => rfl
  | cons p ps ih => simpa using ih
@[simp] theorem deps_ints (xs : List Int) : deps (xs.map D.int) = 0 := by
  induction xs with
  | nil => rfl
  | cons p ps ih => simpa using ih
theorem last_cons {α : Type} (z y : α) (ys : List α) : (z :: (ys ++ [y])).getLast? = some y := by
  have : z :: (ys ++ [y]) = (z :: ys) ++ [y] := rfl
  rw [this, List.getLast?_concat]
theorem pure__law_followed : Pure C__law_followed t__law_followed N__law_followed := by
  rintro ds QD ⟨cs, n, a, b, rfl, hn, hn2, hlen, hins, hc, q⟩
  simp [t__law_followed, -rangeL]
  refine ⟨by omega, ?_⟩
  refine comp_range (fun k => some (.bl (decide (a ≤ k) && decide ((k : Int) ≤ b)))) (n := n) (by omega) (fun k hk acc C ha hC => ?_) ?_
  · by_cases h : a ≤ k <;> simpa [le1__law_followed_e, ha, h] using hC
  have e0 : (List.range n).filterMap (fun k : Nat => some (D.bl (decide (a ≤ k) && decide ((k : Int) ≤ b)))) = (boolRows n a b).map D.bl := by
    rw [List.filterMap_eq_map']
    simp [boolRows, Function.comp_def]
  rw [e0]
  have n0 : nearAll (boolRows n a b).length cs := by rw [bool_len]; exact hn
  simp [-rangeL]
  refine for_map Cmd.d (fun pre τ => ∃ s5 s6 s7 s9, τ = [.v 1 (.lst (cmdsD cs)), .v 2 (.int n), .v 2 (.int a), .v 2 (.int b), .v 2 (.lst ((pre.foldl stepB (boolRows n a b)).map D.bl)), s5, s6, s7, .un, s9, .un, .un]) ⟨_, _, _, _, rfl⟩ (fun pre c post τ E' e _ _ _ hE _ h => ?_) fun τ h => ?_
  · obtain ⟨s5, s6, s7, s9, rfl⟩ := h
    have hl := hlen pre.length (by rw [e]; simp)
    rw [← lenAll_take e] at hl
    have na := (nearAll_app pre (c :: post) n).mp (e ▸ hn)
    have hfl := fold_len pre (boolRows n a b) (by rw [bool_len]; exact na.1)
    rw [bool_len] at hfl
    generalize hrows : pre.foldl stepB (boolRows n a b) = rows at *
    have hE : ∀ s5 s6 s7 s9, E'.nx [.v 1 (.lst (cmdsD cs)), .v 2 (.int n), .v 2 (.int a), .v 2 (.int b), .v 2 (.lst ((stepB rows c).map D.bl)), s5, s6, s7, .un, s9, .un, .un] := fun s5 s6 s7 s9 => hE _ ⟨s5, s6, s7, s9, by simp [hrows]⟩
    have hc1 := na.2.1
    rw [← hfl] at hc1
    cases c with
    | del x y =>
      obtain ⟨c1, c2, c3⟩ := hc1
      have := hE (.v 2 (.str "delete")) (.v 2 (.int x)) (.v 2 (.int y)) s9
      have el : ((rows.map D.bl).take x.toNat).length + ((rows.map D.bl).drop (y + 1).toNat).length ≤ 1000000 := by simp; omega
      simpa [Cmd.d_del, lb2__law_followed_e, cut_map, cutG_to _ x c1, cutG_from _ (y + 1) (by omega), el, stepB, cutOut, -List.length_take, -List.length_drop] using this
    | ins i m =>
      obtain ⟨c1, c2, c3⟩ := hc1
      have hm := hins (.ins i m) (by rw [e]; simp) i m rfl
      have el : ((rows.map D.bl).take i.toNat).length + m.toNat ≤ 1000000 := by simp; omega
      have el2 : ((rows.map D.bl).take i.toNat).length + m.toNat + ((rows.map D.bl).drop i.toNat).length ≤ 1000000 := by simp; omega
      have p2 : L2.atI (rows.map D.bl) i = some (.bl ((rows[i.toNat]?).getD false)) := atI_at c1 (by rw [List.getElem?_map, List.getElem?_eq_getElem (by omega)]; rfl)
      have fin : ∀ v : Bool, v = bothB rows i → E'.nx [.v 1 (.lst (cmdsD cs)), .v 2 (.int n), .v 2 (.int a), .v 2 (.int b), .v 2 (.lst ((rows.map D.bl).take i.toNat ++ (List.replicate m.toNat (.bl v) ++ (rows.map D.bl).drop i.toNat))), .v 2 (.str "insert"), .v 2 (.int i), .v 2 (.int m), .un, .v 2 (.bl v), .un, .un] := fun v hv => by
        have := hE (.v 2 (.str "insert")) (.v 2 (.int i)) (.v 2 (.int m)) (.v 2 (.bl v))
        simpa [stepB, putIn, ← hv] using this
      by_cases hi : 0 < i
      · have p1 : L2.atI (rows.map D.bl) (i - 1) = some (.bl ((rows[(i - 1).toNat]?).getD false)) := atI_at (by omega) (by rw [List.getElem?_map, List.getElem?_eq_getElem (by omega)]; rfl)
        have eb : bothB rows i = ((rows[(i - 1).toNat]?).getD false && (rows[i.toNat]?).getD false) := by simp [bothB, hi]
        rw [eb] at fin
        generalize (rows[(i - 1).toNat]?).getD false = u at *
        generalize (rows[i.toNat]?).getD false = v at *
        have := fin _ rfl
        have hmm : m < 1000000 ∧ m.toNat ≤ 1000000 ∧ -1000000 < m := by omega
        cases u <;> cases v <;> simpa [Cmd.d_ins, lb2__law_followed_e, cut_map, cutG_to _ i c1, cutG_from _ i c1, el, el2, hi, p1, p2, repl_flat, hmm, -List.length_take, -List.length_drop] using this
      · have eb : bothB rows i = false := by simp [bothB, hi]
        rw [eb] at fin
        have := fin _ rfl
        have hmm : m < 1000000 ∧ m.toNat ≤ 1000000 ∧ -1000000 < m := by omega
        simpa [Cmd.d_ins, lb2__law_followed_e, cut_map, cutG_to _ i c1, cutG_from _ i c1, el, el2, hi, p2, repl_flat, hmm, -List.length_take, -List.length_drop] using this
  · obtain ⟨s5, s6, s7, s9, rfl⟩ := h
    have hfl := fold_len cs (boolRows n a b) (by rw [bool_len]; exact hn)
    rw [bool_len] at hfl
    have hl := hlen cs.length (by omega)
    rw [List.take_length] at hl
    generalize hrows : cs.foldl stepB (boolRows n a b) = rows at *
    simp [-rangeL]
    refine ⟨by omega, ?_⟩
    refine comp_range (fun k => if (rows[k]?).getD false then some (.int (k : Int)) else none) (n := rows.length) (by omega) (fun k hk acc C ha hC => ?_) ?_
    · have p : L2.atI (rows.map D.bl) ((k : Int)) = some (.bl ((rows[k]?).getD false)) := by rw [atI_k, List.getElem?_map, List.getElem?_eq_getElem hk]; rfl
      generalize (rows[k]?).getD false = v at *
      cases v <;> simpa [lt3__law_followed_e, le4__law_followed_e, p, ha] using hC
    · have e1 : (List.range rows.length).filterMap (fun (k : Nat) => if (rows[k]?).getD false then some (D.int (k : Int)) else none) = (insideL rows).map D.int := by
        unfold insideL
        rw [List.map_map]
        generalize List.range rows.length = l
        induction l with
        | nil => rfl
        | cons k l ih => by_cases h : (rows[k]?).getD false = true <;> simp [h] at ih ⊢ <;> exact ih
      rw [e1]
      unfold spanOf at q
      generalize insideL rows = xs at *
      rcases snoc_cases xs with rfl | ⟨ys, y, rfl⟩
      · simpa [ospD] using q
      · cases ys with
        | nil => simpa [ospD, spanD] using q
        | cons z ys => simpa [ospD, spanD, last_cons] using q
end PR
/-! PL4: the rows are drawn. -/
namespace PR
open PySem PySem.Spec PyProof.Rows L2 DL
theorem max_if (i j : Int) : (if j > i then j else i) = max i j := by omega
theorem loop_any {E : DEnds} {s0 s1 : Sl} {t : Nat} (h0 : s0 = .v 2 .bag) (ht : t ≤ 3) :
    ∀ (m j : Nat) (rows : List (Option Lab)) (low high last : Int) (lo : Int) (s6 s7 s8 : Sl), RSt t j rows low high last → j + m ≤ 60 →
      (∀ rows low high last s6 s7 s8, RSt t (j + m) rows low high last → E.nx [s0, s1, .v 2 (.lst (rows.map oL)), .v 2 (.int low), .v 2 (.int high), .v 2 (.int last), s6, s7, s8]) →
      forRec 2 (gN 6) lb2__law_any_rows E (rangeL lo m) [s0, s1, .v 2 (.lst (rows.map oL)), .v 2 (.int low), .v 2 (.int high), .v 2 (.int last), s6, s7, s8]
  | 0, j, rows, low, high, last, lo, s6, s7, s8, hr, hm, h => by simpa using h rows low high last s6 s7 s8 hr
  | m + 1, j, rows, low, high, last, lo, s6, s7, s8, hr, hm, h => by
    subst h0
    have ih := fun {rows low high last s6 s7 s8} (hr : RSt t (j + 1) rows low high last) => loop_any (E := E) (s0 := .v 2 .bag) (s1 := s1) rfl ht m (j + 1) rows low high last (lo + 1) s6 s7 s8 hr (by omega) (by
      intro rows low high last s6 s7 s8 hr
      rw [show j + 1 + m = j + (m + 1) by omega] at hr
      exact h rows low high last s6 s7 s8 hr)
    have hlen := hr.len
    have hl2 : rows.length ≤ 200 := by omega
    have hb := hr.b
    simp [lb2__law_any_rows_e]
    refine use_pull (by decide) (by decide) fun k k1 k2 => ?_
    by_cases hk : k = 0
    · simp [hk]
      refine use_of4 fun d hd => ?_
      simp
      refine use_of4 fun e he => ?_
      simp
      have hs := hr.old (d := d) (e := e) (by omega) (by omega) (f := max low (max high (last + 1)) + d) (by omega)
      have hfb : max low (max high (last + 1)) + d ≤ 6 * j + 3 ∧ 0 ≤ max low (max high (last + 1)) + d := by omega
      generalize hf : max low (max high (last + 1)) + d = f at hs hfb ⊢
      have e1 : (f + e + 1 - f).toNat = (e + 1).toNat := by omega
      refine ⟨by omega, ?_⟩
      rw [e1]
      refine comp_rows (.inl rfl) _ _ [] (by simp; omega) ?_
      simp [rangeI_len]
      refine ⟨by omega, ?_⟩
      simpa using ih hs
    · simp [hk]
      refine use_of4 fun d hd => ?_
      simp [max_if]
      refine use_of4 fun e he => ?_
      simp [max_if]
      refine use_of4 fun n hn => ?_
      simp
      have hs := hr.new (d := d) (e := e) (n := n.toNat) (by omega) (by omega) (by omega) rfl rfl
      refine ⟨by omega, by omega, by omega, by omega, ?_⟩
      simpa [labD] using ih hs

theorem pure__law_any_rows : Pure C__law_any_rows t__law_any_rows N__law_any_rows := by
  rintro ds QD ⟨most, rfl, hm, q⟩
  simp [t__law_any_rows]
  refine use_of4 fun t ht => ?_
  simp
  refine ⟨by omega, by omega, by omega, ?_⟩
  refine use_pull (by omega) (by omega) fun j j1 j2 => ?_
  obtain ⟨j, rfl⟩ := Int.eq_ofNat_of_zero_le j1
  simp
  have hr : RSt t.toNat 0 (List.replicate t.toNat none) 0 0 (-1) := ⟨⟨[], by simp, by simp, List.Pairwise.nil, by simp, by simp⟩, by omega⟩
  have key := fun E h => loop_any (E := E) (s0 := .v 2 .bag) (s1 := .v 2 (.int most)) (t := t.toNat) rfl (by omega) j 0 (List.replicate t.toNat none) 0 0 (-1) 0 .un .un .un hr (by omega) h
  refine ⟨by omega, ?_⟩
  have e : (List.replicate t.toNat D.non) = (List.replicate t.toNat (none : Option Lab)).map oL := by simp
  rw [e]
  refine key _ fun rows low high last s6 s7 s8 h => ?_
  have hb := h.b
  have hlen := h.len
  simp
  refine use_of4 fun d hd => ?_
  simp
  have hfin := h.fin (k := most) (d := d) (by omega) (by omega) (by omega) (v := max low (max high (last + 1)) + d) (by omega)
  have hfb : max low (max high (last + 1)) + d ≤ 6 * j + 3 ∧ 0 ≤ max low (max high (last + 1)) + d := by omega
  generalize hf : max low (max high (last + 1)) + d = f at hfin hfb ⊢
  have e1 : (f + 9 - f).toNat = 9 := by omega
  refine ⟨by omega, ?_⟩
  rw [e1]
  refine comp_rows (.inr rfl) _ _ [] (by simp) ?_
  simp [rangeI_len]
  refine ⟨by omega, ?_⟩
  simpa using q _ hfin
end PR
/-! ML3: the layout of rows. -/
namespace PR
open PySem PySem.Spec PyProof.Rows L2 DL
theorem pure__law_made_of : Pure C__law_made_of t__law_made_of N__law_made_of := by
  rintro ds QD ⟨rows, v, rfl, h, hk, q⟩
  obtain ⟨L, hl⟩ := h.lays
  have hn := L.wh.norm_id L.nr
  simp [t__law_made_of]
  refine ⟨rows, rfl, ⟨v, h.lst⟩, by omega, ?_⟩
  simp
  exact ⟨roll rows, false, rfl, L.wh.ok, by omega, by rw [hn]; omega, by simpa [hn] using q⟩
theorem rows_len {k : Nat} {rows : List (Option Lab)} (h : Rows k rows) : 9 ≤ rows.length ∧ rows.length ≤ 3 * k + 12 := by
  obtain ⟨t, ls, v', hr, ht, hl, _⟩ := h.ex
  rw [hr]
  simp [rangeI_len]
  omega
theorem use_made {k : Nat} {rows : List (Option Lab)} (h : Rows k rows) (hk : k ≤ 15) {Q : Sl → Prop} (q : Q (.v 2 (layD (roll rows)))) : C__law_made_of [.lst (rows.map oL)] Q := by
  obtain ⟨v, _, g⟩ := rows_gr h
  exact ⟨rows, v, rfl, g, by have := rows_len h; omega, q⟩
theorem use_madeG {v : Int} {rows : List (Option Lab)} (h : GRows rows v) (hl : rows.length ≤ 60) {Q : Sl → Prop} (q : Q (.v 2 (layD (roll rows)))) : C__law_made_of [.lst (rows.map oL)] Q := ⟨rows, v, rfl, h, hl, q⟩
end PR
/-! PL5: the law's breaks. -/
namespace PR
open PySem PySem.Spec PyProof.Rows L2 DL
def pairsR : Option Lab → List Lab → List (Option Lab × Lab)
  | _, [] => []
  | b, a :: ls => (b, a) :: pairsR (some a) ls
theorem pairsR_filter : ∀ (ls : List Lab) (b : Option Lab), (pairsR b ls).filter (fun x => brkL x.1 x.2) = brkR b ls
  | [], b => rfl
  | a :: ls, b => by
    cases h : brkL b a <;> simp [pairsR, brkR, h, pairsR_filter ls]
theorem pairsR_len : ∀ (ls : List Lab) (b : Option Lab), (pairsR b ls).length = ls.length
  | [], b => rfl
  | a :: ls, b => by simp [pairsR, pairsR_len ls]
theorem comp_b1 {Q : Sl → Prop} {s0 s1 s2 s3 s4 s5 : Sl} {g : Nat} (hg : g = 1 ∨ g = 2) : ∀ (rows : List (Option Lab)) (acc : List D), acc.length + rows.length < 1000000 → Q (.own (acc ++ (labsOf rows).map labD)) →
    compRec g (gN 3) lt1__law_breaks le2__law_breaks [s0, s1, s2, s3, s4, s5] Q (rows.map oL) acc
  | [], acc, _, h => by simpa [labsOf] using h
  | x :: rows, acc, hl, h => by
    simp at hl
    cases x with
    | none =>
      have ih := comp_b1 (s0 := s0) (s1 := s1) (s2 := s2) (s3 := s3) (s4 := s4) (s5 := s5) (Q := Q) hg rows acc (by omega) (by simpa [labsOf] using h)
      simp [lt1__law_breaks_e, up_g hg (show D.imm .non = true from rfl)]
      exact ih
    | some x =>
      have ih := comp_b1 (s0 := s0) (s1 := s1) (s2 := s2) (s3 := s3) (s4 := s4) (s5 := s5) (Q := Q) hg rows (acc ++ [labD x]) (by simp; omega) (by simpa [labsOf] using h)
      have hn : DL.isNon (labD x) = false := rfl
      have ha : acc.length < 1000000 := by omega
      simp [lt1__law_breaks_e, le2__law_breaks_e, up_g hg (imm_lab x), hn, ha]
      exact ih
theorem comp_b3 {Q : Sl → Prop} {s0 s2 s3 s4 s5 : Sl} {ls : List Lab} (hl : ls.length < 1000) : ∀ (m k : Nat) (acc : List D) (x : Lab), k + m + 1 = ls.length → acc.length = k → ls[k]? = some x → Q (.own (acc ++ (pairsR (some x) (ls.drop (k + 1))).map brkD)) →
    compRec 2 (gN 5) tYesD le3__law_breaks [s0, .v 2 (.lst (ls.map labD)), s2, s3, s4, s5] Q (rangeL k m) acc
  | 0, k, acc, x, h1, h2, hx, h => by
    rw [List.drop_eq_nil_of_le (by omega)] at h
    simpa [pairsR] using h
  | m + 1, k, acc, x, h1, h2, hx, h => by
    have hlt : k + 1 < ls.length := by omega
    have e1 : ls.drop (k + 1) = ls[k + 1] :: ls.drop (k + 1 + 1) := List.drop_eq_getElem_cons hlt
    rw [e1] at h
    have ih := comp_b3 (s0 := s0) (s2 := s2) (s3 := s3) (s4 := s4) (s5 := s5) (Q := Q) hl m (k + 1) (acc ++ [brkD (some x, ls[k + 1])]) ls[k + 1] (by omega) (by simp [h2]) (List.getElem?_eq_getElem hlt) (by simpa [pairsR] using h)
    have a1 : L2.atI (ls.map labD) (k : Int) = some (labD x) := by rw [atI_k, List.getElem?_map, hx]; rfl
    have a2 : L2.atI (ls.map labD) ((k : Int) + 1) = some (labD ls[k + 1]) := by
      rw [show (k : Int) + 1 = ((k + 1 : Nat) : Int) by omega, atI_k, List.getElem?_map, List.getElem?_eq_getElem hlt]
      rfl
    have ha : acc.length < 1000000 := by omega
    simp [le3__law_breaks_e, a1, a2, ha]
    simpa [brkD] using ih
theorem comp_b5 {Q : Sl → Prop} {s0 s1 s2 s3 s4 s5 : Sl} : ∀ (ps : List (Option Lab × Lab)) (acc : List D), acc.length + ps.length < 1000000 → Q (.own (acc ++ (ps.filter fun x => brkL x.1 x.2).map brkD)) →
    compRec 2 (gN 4) lt4__law_breaks le5__law_breaks [s0, s1, s2, s3, s4, s5] Q (ps.map brkD) acc
  | [], acc, _, h => by simpa using h
  | p :: ps, acc, hl, h => by
    obtain ⟨b, a⟩ := p
    simp at hl
    have ha : acc.length < 1000000 := by omega
    simp [lt4__law_breaks_e, brkD]
    refine ⟨b, a, rfl, ?_⟩
    cases hb : brkL b a with
    | true =>
      have ih := comp_b5 (s0 := s0) (s1 := s1) (s2 := s2) (s3 := s3) (s4 := s4) (s5 := s5) (Q := Q) ps (acc ++ [brkD (b, a)]) (by simp; omega) (by simpa [hb] using h)
      simp [le5__law_breaks_e, ha]
      simpa [brkD] using ih
    | false =>
      have ih := comp_b5 (s0 := s0) (s1 := s1) (s2 := s2) (s3 := s3) (s4 := s4) (s5 := s5) (Q := Q) ps acc (by omega) (by simpa [hb] using h)
      simpa using ih
theorem pure__law_breaks : Pure C__law_breaks t__law_breaks N__law_breaks := by
  rintro ds QD ⟨rows, rfl, ⟨v, hv⟩, hl, q⟩
  have hne : ∃ a ls, labsOf rows = a :: ls := by
    obtain ⟨init, e⟩ := List.getLast?_eq_some_iff.mp hv
    rw [e]
    cases h : labsOf (init ++ [some (v, v)]) with
    | nil => simp [labsOf] at h
    | cons a ls => exact ⟨a, ls, rfl⟩
  obtain ⟨a, ls, hls⟩ := hne
  have hlen : (labsOf rows).length < 1000 := Nat.lt_of_le_of_lt (List.length_filterMap_le _ _) hl
  simp [t__law_breaks]
  refine comp_b1 (by simp) rows [] (by simp; omega) ?_
  simp [hls]
  rw [hls] at hlen
  simp at hlen
  refine ⟨by omega, ?_⟩
  refine comp_b3 (ls := a :: ls) (by simp; omega) ls.length 0 [] a (by simp) rfl rfl ?_
  simp [pairsR_len]
  refine ⟨by omega, ?_⟩
  have := comp_b5 (s0 := .v 1 (.lst (rows.map oL))) (s1 := .v 2 (.lst (labD a :: ls.map labD))) (s2 := .v 2 (.lst (brkD (none, a) :: (pairsR (some a) ls).map brkD))) (s3 := .un) (s4 := .un) (s5 := .un) (Q := fun sl => sto sl = true ∧ QD (out sl)) (pairsR none (a :: ls)) [] (by simp [pairsR_len]; omega) (by
    rw [pairsR_filter, ← hls]
    simpa using q)
  simpa [pairsR, brkD] using this
end PR
/-! PN: nearly the same rows, spans far away, claimed differences. -/
namespace PR
open PySem PySem.Spec PyProof.Rows L2 DL
theorem pure_is_difference : Pure C_is_difference t_is_difference N_is_difference := by
  rintro ds QD ⟨ps, qs, s, rfl, h1, h2, q⟩
  simp [t_is_difference]
  cases hs : s.ok with
  | false =>
    rw [hs] at q
    simpa using q
  | true =>
    rw [hs] at q
    simp [use_carried h1 hs, use_carried h2 hs]
    simpa using q
theorem pure__law_far : Pure C__law_far t__law_far N__law_far := by
  rintro ds QD ⟨rfl, q⟩
  simp [t__law_far]
  have c1 : CPow 10 6 := ⟨by decide, by decide, by decide⟩
  have c2 : CPow 10 18 := ⟨by decide, by decide, by decide⟩
  have c3 : CPow 10 29 := ⟨by decide, by decide, by decide⟩
  refine ⟨c1, c2, c3, of_ints [1000000, 1000000000000000000, 100000000000000000000000000000] 1000000 100000000000000000000000000000 fun i i1 i2 => ?_⟩
  simp
  refine ⟨c1, use_pull (n := 1000000) (by decide) (by decide) fun k k1 k2 => ?_⟩
  simpa using q (i + k) (by omega)
theorem pure__law_bad_spans : Pure C__law_bad_spans t__law_bad_spans N__law_bad_spans := by
  rintro ds QD ⟨rfl, q⟩
  simp [t__law_bad_spans]
  have c1 : CPow 10 20 := ⟨by decide, by decide, by decide⟩
  refine ⟨c1, by simp, by simp, by simp, fun d hd => ?_⟩
  simp at hd
  have q1 := q (-1, some 2) rfl
  have q2 := q (3, some 2) rfl
  have q3 := q (-1, none) rfl
  have q4 := q (10 ^ 20, some 5) rfl
  have q5 := q (0, some (-1)) rfl
  simp [spanD] at q1 q2 q3 q4 q5
  rcases hd with rfl | rfl | rfl | rfl | rfl <;> simp <;> assumption
theorem inside_eq (rows : List (Option Lab)) (f : Option Lab → Bool) : (List.range rows.length).filterMap (fun (k : Nat) => if f ((rows[k]?).getD none) then some (D.int (k : Int)) else none) = (insideL (rows.map f)).map D.int := by
  unfold insideL
  rw [List.map_map, List.length_map]
  have : ∀ k ∈ List.range rows.length, ((rows.map f)[k]?).getD false = f ((rows[k]?).getD none) := by
    intro k hk
    have hk := List.mem_range.mp hk
    rw [List.getElem?_map, List.getElem?_eq_getElem hk]
    rfl
  generalize List.range rows.length = l at *
  induction l with
  | nil => rfl
  | cons k l ih =>
    have h1 := this k (by simp)
    have ih := ih fun x hx => this x (by simp [hx])
    rw [List.filterMap_cons, List.filter_cons, h1]
    cases f ((rows[k]?).getD none) with
    | true => simp [ih]
    | false => simpa using ih
theorem at_rows {rows : List (Option Lab)} {k : Nat} (hk : k < rows.length) : L2.atI (rows.map oL) ((k : Int)) = some (oL ((rows[k]?).getD none)) := by rw [atI_k, List.getElem?_map, List.getElem?_eq_getElem hk]; rfl
theorem last_row {rows : List (Option Lab)} {x : Option Lab} (h : rows.getLast? = some x) : (rows.map oL).getLast? = some (oL x) := by rw [List.getLast?_map, h]; rfl
theorem Lays.shift {rows : List (Option Lab)} {ps : List Pc} {v : Int} (L : Lays rows ps v) : shiftF ps = rows.length - 1 - v := by
  have t1 := L.tl.1
  obtain ⟨u, hu1, hu2⟩ : ∃ u : Int, tailF ps ≤ u ∧ v < u := ⟨max (tailF ps) (v + 1), by omega, by omega⟩
  obtain ⟨a1, a2⟩ := tail_lab L.wh.lay hu1
  have b1 := L.tl.2 ((rows.length : Int) - 1 + u - v) (by omega)
  rw [show v + 1 + ((rows.length : Int) - 1 + u - v - rows.length) = u by omega] at b1
  have g := L.wh.good.mono
  have h1 := g (u + shiftF ps) ((rows.length : Int) - 1 + u - v) a2
  have h2 := g ((rows.length : Int) - 1 + u - v) (u + shiftF ps) (by omega)
  rw [a1, b1] at h1 h2
  have no : ¬ ole (some (u, u)) (some (u, u)) := fun z => by
    have := z.2.2 rfl rfl
    omega
  have h1 : ¬ (u + shiftF ps < (rows.length : Int) - 1 + u - v) := fun z => no (h1 z)
  have h2 : ¬ ((rows.length : Int) - 1 + u - v < u + shiftF ps) := fun z => no (h2 z)
  omega
theorem rows_old {k : Nat} {rows : List (Option Lab)} (h : Rows k rows) : ∀ j, rows.length ≤ j + 9 → ∀ x, rows[j]? = some x → ∃ u, x = some (u, u) := by
  obtain ⟨t, ls, v', hr, ht, hl, _⟩ := h.ex
  intro j hj x hx
  rw [hr] at hj hx
  rw [List.getElem?_append_right (by simp [rangeI_len] at hj ⊢; omega)] at hx
  obtain ⟨i, _, rfl⟩ := List.mem_map.mp (List.mem_of_getElem? hx)
  exact ⟨i, rfl⟩
theorem pure__law_one_length : Pure C__law_one_length t__law_one_length N__law_one_length := by
  rintro ds QD ⟨rows, rows', v, v', rfl, h1, h2, l1, l2, v0, v1, v2, v3, q⟩
  have r1 := last_row h1
  have r2 := last_row h2
  unfold t__law_one_length
  refine seq_j fun R hR => ?_
  simp [r1, r2, labD]
  have em : (if v < v' then v' else v) = max v v' := by split <;> omega
  rw [em]
  generalize hw : max v v' = w at *
  have w1 : v ≤ w ∧ v' ≤ w ∧ w < 1000 := by omega
  subst hR
  refine seq_j fun R hR => ?_
  simp [r1, labD, -rangeL]
  have im : ∀ (a b : List (Option Lab)), immAll (a.map oL ++ b.map oL) = true := fun a b => by simp
  refine ⟨by omega, ?_⟩
  refine comp_range (fun k => some (oL (some (v + 1 + (k : Int), v + 1 + (k : Int))))) (n := (w + 1 - (v + 1)).toNat) (by omega) (fun k hk acc C ha hC => ?_) ?_
  · simpa [le1__law_one_length_e, ha, labD] using hC
  rw [List.filterMap_eq_map', show (w + 1 - (v + 1)).toNat = (w - v).toNat by omega]
  have e1 : (List.range (w - v).toNat).map (fun k : Nat => oL (some (v + 1 + (k : Int), v + 1 + (k : Int)))) = (olds (v + 1) (w - v).toNat).map oL := by simp [olds, Function.comp_def]
  rw [e1]
  have ll1 : (olds (v + 1) (w - v).toNat).length = (w - v).toNat := olds_len _ _
  have ll2 : (olds (v' + 1) (w - v').toNat).length = (w - v').toNat := olds_len _ _
  generalize olds (v + 1) (w - v).toNat = O1 at *
  simp
  refine ⟨by omega, ?_⟩
  subst hR
  simp [r2, labD, -rangeL]
  refine ⟨by omega, ?_⟩
  refine comp_range (fun k => some (oL (some (v' + 1 + (k : Int), v' + 1 + (k : Int))))) (n := (w + 1 - (v' + 1)).toNat) (by omega) (fun k hk acc C ha hC => ?_) ?_
  · simpa [le2__law_one_length_e, ha, labD] using hC
  rw [List.filterMap_eq_map', show (w + 1 - (v' + 1)).toNat = (w - v').toNat by omega]
  have e2 : (List.range (w - v').toNat).map (fun k : Nat => oL (some (v' + 1 + (k : Int), v' + 1 + (k : Int)))) = (olds (v' + 1) (w - v').toNat).map oL := by simp [olds, Function.comp_def]
  rw [e2]
  generalize olds (v' + 1) (w - v').toNat = O2 at *
  simp
  refine ⟨by omega, ?_⟩
  simpa using q
def carTl (rows : List (Option Lab)) (v f : Int) (b : Option Int) : Option Span := match b with
  | none => some (f, none)
  | some b =>
    let e := if v ≤ b then rows.length - 1 + b - v else (-1 :: insideL (rows.map (uptoL b))).getLast?.getD 0
    if f ≤ e then some (f, some e) else none
theorem pure__law_carried_due : Pure C__law_carried_due t__law_carried_due N__law_carried_due := by
  rintro ds QD ⟨rows, v, ⟨a, b⟩, rfl, h1, hl, q⟩
  have r1 := last_row h1
  simp [t__law_carried_due, r1, labD, spanD, -rangeL]
  refine ⟨by omega, ?_⟩
  refine comp_range (fun k => if fromL a ((rows[k]?).getD none) then some (.int (k : Int)) else none) (n := rows.length) (by omega) (fun k hk acc C ha hC => ?_) ?_
  · have p := at_rows hk
    generalize (rows[k]?).getD none = y at *
    cases y with
    | none => simpa [lt1__law_carried_due_e, le2__law_carried_due_e, p, ha, fromL] using hC
    | some x =>
      obtain ⟨l, h⟩ := x
      by_cases h1 : a ≤ l <;> simpa [lt1__law_carried_due_e, le2__law_carried_due_e, p, ha, fromL, labD, h1] using hC
  · rw [inside_eq]
    have eq : carDue rows v (a, b) = carTl rows v ((insideL (rows.map (fromL a))).head?.getD (rows.length - 1 + a - v)) b := by cases b <;> rfl
    rw [eq] at q
    generalize insideL (rows.map (fromL a)) = xs at *
    have tail : ∀ (f : Int) (s4 : Sl), QD (.v 2 (ospD (carTl rows v f b))) →
        (dSeq (dIf (tV (dIsN (dIxK 1 (dVar 1)))) (dRet (dTup (aCons (dVar 5) (aCons (dK .non) aNil)))) dNext) (dSeq (dSet 6 (dLcR (aCons (dVar 2) aNil) (gN 8) lt3__law_carried_due le4__law_carried_due [8])) (dSeq (dSet 7 (dIfE (tV (dOp fGe (dIxK 1 (dVar 1)) (dVar 3))) (dOp fSub (dOp fAdd (dOp fSub (dVar 2) (dK (.int 1))) (dIxK 1 (dVar 1))) (dVar 3)) (dIxL (dOp fAdd (dLst (aCons (dNeg (dK (.int 1))) aNil)) (dVar 6))))) (dRet (dIfE (tV (dOp fLe (dVar 5) (dVar 7))) (dTup (aCons (dVar 5) (aCons (dVar 7) aNil))) (dK .non)))))) { nx := fun _ => QD (.v 2 .non), rt := QD } [.v 1 (.lst (rows.map oL)), .v 2 (.tup [.int a, oD b]), .v 2 (.int rows.length), .v 2 (.int v), s4, .v 2 (.int f), .un, .un, .un] := by
      intro f s4 q
      cases b with
      | none => simpa [carTl, ospD, spanD] using q
      | some b =>
        simp [-rangeL]
        refine ⟨by omega, ?_⟩
        refine comp_range (fun k => if uptoL b ((rows[k]?).getD none) then some (.int (k : Int)) else none) (n := rows.length) (by omega) (fun k hk acc C ha hC => ?_) ?_
        · have p := at_rows hk
          generalize (rows[k]?).getD none = y at *
          cases y with
          | none => simpa [lt3__law_carried_due_e, le4__law_carried_due_e, p, ha, uptoL] using hC
          | some x =>
            obtain ⟨l, h⟩ := x
            by_cases h1 : h ≤ b <;> simpa [lt3__law_carried_due_e, le4__law_carried_due_e, p, ha, uptoL, labD, h1] using hC
        · rw [inside_eq]
          simp only [carTl] at q
          by_cases hv : v ≤ b
          · rw [if_pos hv] at q
            by_cases hf : f ≤ rows.length - 1 + b - v
            · rw [if_pos hf] at q
              simpa [hv, hf, ospD, spanD] using q
            · rw [if_neg hf] at q
              simpa [hv, hf, ospD, spanD] using q
          · rw [if_neg hv] at q
            obtain ⟨e, he⟩ : ∃ e : Int, (-1 :: insideL (rows.map (uptoL b))).getLast?.getD 0 = e := ⟨_, rfl⟩
            have he2 : (D.int (-1) :: (insideL (rows.map (uptoL b))).map D.int).getLast? = some (D.int e) := by
              have : (-1 :: insideL (rows.map (uptoL b))).getLast? = some e := by
                cases h : (-1 :: insideL (rows.map (uptoL b))).getLast? with
                | none => simp at h
                | some z => rw [h] at he; rw [← he]; rfl
              rw [← List.map_cons, List.getLast?_map, this]
              rfl
            have hle : (insideL (rows.map (uptoL b))).length ≤ rows.length := by
              unfold insideL
              have := List.length_filter_le (fun k => ((rows.map (uptoL b))[k]?).getD false) (List.range (rows.map (uptoL b)).length)
              simp at this ⊢
              exact this
            rw [he] at q
            by_cases hf : f ≤ e
            · rw [if_pos hf] at q
              simp [hv, hf, ospD, spanD, he2]; exact ⟨by omega, by simpa [ospD, spanD] using q⟩
            · rw [if_neg hf] at q
              simp [hv, hf, ospD, spanD, he2]; exact ⟨by omega, by simpa [ospD, spanD] using q⟩
    cases xs with
    | nil =>
      have := tail (rows.length - 1 + a - v) (.v 2 (.lst [])) q
      simpa using this
    | cons x xs =>
      have := tail x (.v 2 (.lst ((x :: xs).map D.int))) q
      simpa using this
theorem pure__law_changed_rows : Pure C__law_changed_rows t__law_changed_rows N__law_changed_rows := by
  rintro ds QD ⟨rows, v, rfl, g, h1, h2, q⟩
  unfold t__law_changed_rows
  refine seq_j fun R hR => ?_
  simp
  refine use_pull (n := 5) (by decide) (by decide) fun way w1 w2 => ?_
  simp
  obtain ⟨n, hn, hn1, hn2⟩ : ∃ n : Int, (if (1 : Int) < rows.length - 8 then (rows.length : Int) - 8 else 1) = n ∧ 1 ≤ n ∧ n ≤ rows.length - 2 := ⟨_, rfl, by split <;> omega, by split <;> omega⟩
  rw [hn]
  refine use_pull (by omega) (by omega) fun i i1 i2 => ?_
  obtain ⟨i, rfl⟩ := Int.eq_ofNat_of_zero_le i1
  simp
  subst hR
  have hi : i < rows.length := by omega
  have hi1 : i + 1 < rows.length := by omega
  have p0 := at_rows hi
  have p1 := at_rows hi1
  have ii : ∀ xs : List (Option Lab), immAll (xs.map oL) = true := fun xs => by simp
  have ct : cutG (rows.map oL) none (some (i : Int)) = (rows.map oL).take i := by rw [cutG_to _ _ (by omega)]; rfl
  have cd : cutG (rows.map oL) (some ((i : Int) + 1)) none = (rows.map oL).drop (i + 1) := by rw [cutG_from _ _ (by omega)]; rfl
  have cd0 : cutG (rows.map oL) (some (i : Int)) none = (rows.map oL).drop i := by rw [cutG_from _ _ (by omega)]; rfl
  have it : immAll ((rows.map oL).take i) = true := by rw [← List.map_take]; exact ii _
  have id1 : immAll ((rows.map oL).drop (i + 1)) = true := by rw [← List.map_drop]; exact ii _
  have id0 : immAll ((rows.map oL).drop i) = true := by rw [← List.map_drop]; exact ii _
  have q0 := q _ (g.near0 hi1)
  have q2 := q _ g.near2
  have e0 := List.getElem?_eq_getElem hi
  have e1 := List.getElem?_eq_getElem hi1
  have ww : way = 0 ∨ way = 1 ∨ way = 2 ∨ way = 3 ∨ way = 4 := by omega
  rcases ww with rfl | rfl | rfl | rfl | rfl
  · simp [ct, cd, it, id1]
    exact ⟨by omega, by simpa using q0⟩
  · have q1 := fun hn => q _ (g.near1 hi e0 hn)
    have q1' := q _ (g.near1' hi e0)
    rw [e0] at p0
    generalize rows[i] = x at *
    cases x with
    | none =>
      simp [ct, cd, p0, it, id1]
      exact ⟨by omega, by omega, by simpa using q1 (by simp)⟩
    | some x =>
      obtain ⟨l, h⟩ := x
      by_cases hlh : l < h
      · simp [ct, cd, p0, labD, hlh, it, id1]
        have := q1 (fun a z => by injection z with z; injection z with z1 z2; omega)
        exact ⟨by omega, by omega, by simpa [labD] using this⟩
      · simp [ct, cd, p0, labD, hlh, it, id1]
        exact ⟨by omega, by omega, by simpa [labD] using q1'⟩
  · simp
    exact ⟨by omega, by simpa using q2⟩
  · have q3 := q _ (g.near3 (g := 0) (i := i) (by omega) (by omega) rfl)
    by_cases z : i = 0
    · subst z
      have c1 : cutG (rows.map oL) none (some 0) = [] := by rw [cutG_to _ _ (by omega)]; rfl
      have c2 : cutG (rows.map oL) (some 0) none = rows.map oL := by rw [cutG_from _ _ (by omega)]; rfl
      simp at q3
      simp [c1, c2]
      exact ⟨by omega, q3⟩
    · rw [if_neg z] at q3
      have pm := at_rows (rows := rows) (k := i - 1) (by omega)
      rw [show ((i - 1 : Nat) : Int) = (i : Int) - 1 by omega] at pm
      have em := List.getElem?_eq_getElem (show i - 1 < rows.length by omega)
      have ho := g.ole_at (show i - 1 < i by omega) em e0
      rw [em] at pm q3
      rw [e0] at p0
      rw [Nat.add_zero, e0] at q3
      have zi : 0 < i := by omega
      generalize rows[i] = x at *
      generalize rows[i - 1] = y at *
      cases y with
      | none =>
        simp [ct, cd0, p0, pm, it, id0, zi]
        exact ⟨by omega, by omega, by simpa [midL] using q3⟩
      | some y =>
        cases x with
        | none => exact ho.elim
        | some x =>
          simp [ct, cd0, p0, pm, it, id0, zi, labD]
          exact ⟨by omega, by omega, by simpa [midL, labD] using q3⟩
  · have q3 := q _ (g.near3 (g := 1) (i := i) (by omega) (by omega) rfl)
    by_cases z : i = 0
    · subst z
      have c1 : cutG (rows.map oL) none (some 0) = [] := by rw [cutG_to _ _ (by omega)]; rfl
      have c2 : cutG (rows.map oL) (some 1) none = (rows.map oL).drop 1 := by rw [cutG_from _ _ (by omega)]; rfl
      simp at q3 id1
      simp [c1, c2, id1]
      exact ⟨by omega, by simpa using q3⟩
    · rw [if_neg z] at q3
      have pm := at_rows (rows := rows) (k := i - 1) (by omega)
      rw [show ((i - 1 : Nat) : Int) = (i : Int) - 1 by omega] at pm
      have em := List.getElem?_eq_getElem (show i - 1 < rows.length by omega)
      have ho := g.ole_at (show i - 1 < i + 1 by omega) em e1
      rw [em] at pm q3
      rw [e1] at p1 q3
      have p1 : L2.atI (rows.map oL) ((i : Int) + 1) = some (oL ((some rows[i + 1]).getD none)) := p1
      have zi : 0 < i := by omega
      generalize rows[i + 1] = x at *
      generalize rows[i - 1] = y at *
      cases y with
      | none =>
        simp [ct, cd, p1, pm, it, id1, zi]
        exact ⟨by omega, by omega, by simpa [midL] using q3⟩
      | some y =>
        cases x with
        | none => exact ho.elim
        | some x =>
          simp [ct, cd, p1, pm, it, id1, zi, labD]
          exact ⟨by omega, by omega, by simpa [midL, labD] using q3⟩
end PR
/-! T6: scripts that may be refused: readings (printed by mkt.py). -/
namespace PR
open PySem PySem.Spec PyProof.Rows L2 DL
def lbx1_check_script : DTS := (dIf (tvNot (tV (dCall C_is_command [] (aCons (dVar 2) aNil)))) (dRaise "BadCommand" ["at"] (aCons (dVar 1) aNil)) dNext)
theorem lbx1_check_script_e (E : DEnds) (τ : DSt) : lbx1_check_script E τ = (dIf (tvNot (tV (dCall C_is_command [] (aCons (dVar 2) aNil)))) (dRaise "BadCommand" ["at"] (aCons (dVar 1) aNil)) dNext) E τ := rfl
def tx_check_script : DTS := (dForE (aCons (dVar 0) aNil) (gT 2 (gsCons (gN 1) (gsCons (gN 2) gsNil))) lbx1_check_script)
def lbx1_run : DTS := (dSet 2 (dCall C_changed [] (aCons (dVar 2) (aCons (dVar 3) aNil))))
theorem lbx1_run_e (E : DEnds) (τ : DSt) : lbx1_run E τ = (dSet 2 (dCall C_changed [] (aCons (dVar 2) (aCons (dVar 3) aNil)))) E τ := rfl
def tx_run : DTS := (dSeq (dDropX (dCallX X_check_script [] (aCons (dVar 0) aNil))) (dSeq (dSet 2 (dIfE (tV (dIsN (dVar 1))) (dCB fList (aCons (dK (.tup [.tup [.str "old", .int 0, .non]])) aNil)) (dMeth 0 C_Layout_pieces [] (dVar 1) aNil))) (dSeq (dFor (dVar 0) (gN 3) lbx1_run) (dRetX (dMakeX 0 X_Layout___init__ [] (aCons (dVar 2) aNil))))))
end PR
/-! P6: scripts that may be refused. -/
namespace PR
open PySem PySem.Spec PyProof.Rows L2 DL
theorem badIt_cons (n : Nat) (it : Itm) (its : List Itm) : badIt n (it :: its) = if it.ok then badIt (n + 1) its else some n := rfl
theorem purex_check_script : PureX X_check_script tx_check_script N_check_script := by
  rintro ds QD QE ⟨its, tu, rfl, h1, h2⟩
  have key : ∀ (g : Nat) (hg : g = 1 ∨ g = 2) (s0 : Sl), forRec g (gT 2 (gsCons (gN 1) (gsCons (gN 2) gsNil))) lbx1_check_script { nx := fun _ => QD (.v 2 .non), rt := QD, er := QE } (enumL 0 (itsD its)) [s0, .un, .un] := fun g hg s0 => by
    refine for_invX (fun k τ => (∃ s1 s2, τ = [s0, s1, s2]) ∧ badIt k (its.drop k) = badIt 0 its) ⟨⟨_, _, rfl⟩, rfl⟩ (fun k d τ E' e t hE h => ?_) fun τ h => ?_
    · obtain ⟨c, e1, rfl⟩ := enum_map Itm.d its _ _ _ e
      obtain ⟨⟨s1, s2, rfl⟩, hb⟩ := h
      obtain ⟨hk, e2⟩ := List.getElem?_eq_some_iff.mp e1
      rw [List.drop_eq_getElem_cons hk, e2, badIt_cons] at hb
      cases ho : c.ok with
      | true =>
        rw [ho, if_pos rfl] at hb
        have := (hE _ ⟨⟨.v 2 (.int (0 + k)), .v 2 c.d, rfl⟩, hb⟩).1
        rcases hg with rfl | rfl <;> simpa [lbx1_check_script_e, ho] using this
      | false =>
        rw [ho] at hb
        have := h2 k (by rw [← hb]; rfl)
        have : E'.er (eBadCommand k) := by rw [t.er]; exact this
        rcases hg with rfl | rfl <;> simpa [lbx1_check_script_e, ho] using this
    · obtain ⟨_, hb⟩ := h
      have el : (enumL 0 (itsD its)).length = its.length := by
        have : ∀ (xs : List D) (i : Int), (enumL i xs).length = xs.length := fun xs => by
          induction xs with
          | nil => intro i; rfl
          | cons x xs ih => intro i; simp [ih]
        rw [this]; simp
      rw [el, List.drop_length] at hb
      exact h1 (by rw [← hb]; rfl)
  cases tu
  · simpa [tx_check_script, seqOf] using key _ (by simp) _
  · simpa [tx_check_script, seqOf] using key _ (by simp) _
theorem purex_run : PureX X_run tx_run N_run := by
  rintro ds QD QE ⟨its, tu, st, rfl, hst, hlen, hbad, hq, hm⟩
  have hw : Whole (st.getD PLAIN) ∧ nrm (st.getD PLAIN) ∧ (st.getD PLAIN).length ≤ 60 := by
    cases st with
    | none => exact ⟨plain_whole, trivial, by decide⟩
    | some ps => exact hst ps rfl
  obtain ⟨w1, w2, w3⟩ := hw
  simp [tx_run]
  refine ⟨its, tu, rfl, fun hb => ?_, hbad⟩
  obtain ⟨cs, rfl, hc⟩ := badIt_none its 0 hb
  have hq := hq cs rfl hc
  have hm := hm cs rfl hc
  simp at hlen
  have key : ∀ (g : Nat) (hg : g = 1 ∨ g = 2) (s0 s1 : Sl), forRec g (gN 3) lbx1_run { nx := dRetX (dMakeX 0 X_Layout___init__ [] (aCons (dVar 2) aNil)) { nx := fun _ => QD (.v 2 .non), rt := QD, er := QE }, rt := QD, er := QE } (cmdsD cs) [s0, s1, .v 2 (.lst (pcsD (st.getD PLAIN))), .un] := fun g hg s0 s1 => by
    refine for_map Cmd.d (fun pre τ => ∃ s3, τ = [s0, s1, .v 2 (.lst (pcsD (runF (st.getD PLAIN) pre))), s3]) ⟨_, rfl⟩ (fun pre c post τ E' e _ _ _ hE _ h => ?_) fun τ h => ?_
    · obtain ⟨s3, rfl⟩ := h
      have hc1 : ∀ x ∈ pre, x.ok = true := fun x hx => hc x (by rw [e]; simp [hx])
      have hl : pre.length ≤ 420 := by rw [e] at hlen; simp at hlen; omega
      obtain ⟨r1, r2, r3, r4⟩ := runF_ok pre _ w1 w2 hc1
      have hok := hc c (by rw [e]; simp)
      have := hE _ ⟨.v 2 c.d, rfl⟩
      rw [runF_take e] at this
      simpa [lbx1_run_e, up_g hg, ↓use_changed r1 hok (show (runF (st.getD PLAIN) pre).length < 990 by omega)] using this
    · obtain ⟨s3, rfl⟩ := h
      obtain ⟨r1, r2, r3, r4⟩ := runF_ok cs _ w1 w2 hc
      have hn := nrm_norm r1.lay r2
      have hb := (badAt_pcs _).mpr r1.ok
      simp
      refine xlay _ false rfl (by omega) (fun k z => by rw [hb] at z; cases z) (fun _ h60 => ?_) (fun _ h60 => ?_)
      · rw [hn] at h60
        have := hq h60
        simpa [hn] using this
      · rw [hn] at h60
        exact hm h60
  rw [itsD_cmds]
  cases st with
  | none =>
    simp [stD]
    cases tu
    · simp [seqOf]; exact key 1 (.inl rfl) _ _
    · simp [seqOf]; exact key 2 (.inr rfl) _ _
  | some ps =>
    simp [stD]
    cases tu
    · simp [seqOf]; exact key 1 (.inl rfl) _ _
    · simp [seqOf]; exact key 2 (.inr rfl) _ _
end PR
/-! PWk: scripts walked over lists of labels. -/
namespace PR
open PySem PySem.Spec PyProof.Rows L2 DL
theorem imm_rows (xs : List (Option Lab)) : immAll (xs.map oL) = true := by simp
theorem pure__law_step : Pure C__law_step t__law_step N__law_step := by
  rintro ds QD ⟨rows, c, rfl, hn, ho, hl, hm, q⟩
  have ii := imm_rows
  cases c with
  | del a b =>
    obtain ⟨c1, c2, c3⟩ := hn
    have ct : cutG (rows.map oL) none (some a) = (rows.take a.toNat).map oL := by rw [cutG_to _ _ c1, List.map_take]
    have cd : cutG (rows.map oL) (some (b + 1)) none = (rows.drop (b + 1).toNat).map oL := by rw [cutG_from _ _ (by omega), List.map_drop]
    have i1 := ii (rows.take a.toNat)
    have i2 := ii (rows.drop (b + 1).toNat)
    rw [List.map_take] at ct i1
    rw [List.map_drop] at cd i2
    simp [t__law_step, Cmd.d_del, ct, cd, i1, i2]
    exact ⟨by omega, by simpa [stepR, cutOut] using q⟩
  | ins i n =>
    obtain ⟨c1, c2, c3⟩ := hn
    have hm := hm i n rfl
    have ct : cutG (rows.map oL) none (some i) = (rows.take i.toNat).map oL := by rw [cutG_to _ _ c1, List.map_take]
    have cd : cutG (rows.map oL) (some i) none = (rows.drop i.toNat).map oL := by rw [cutG_from _ _ (by omega), List.map_drop]
    have i1 := ii (rows.take i.toNat)
    have i2 := ii (rows.drop i.toNat)
    rw [List.map_take] at ct i1
    rw [List.map_drop] at cd i2
    have p0 : L2.atI (rows.map oL) i = some (oL ((rows[i.toNat]?).getD none)) := by
      have := at_rows (rows := rows) (k := i.toNat) (by omega)
      rwa [show ((i.toNat : Nat) : Int) = i by omega] at this
    have hmm : n < 1000000 ∧ n.toNat ≤ 1000000 ∧ -1000000 < n := by omega
    by_cases hi : 0 < i
    · have p1 : L2.atI (rows.map oL) (i - 1) = some (oL ((rows[(i - 1).toNat]?).getD none)) := by
        have := at_rows (rows := rows) (k := (i - 1).toNat) (by omega)
        rwa [show (((i - 1).toNat : Nat) : Int) = i - 1 by omega] at this
      have eb : midR rows i = midL ((rows[(i - 1).toNat]?).getD none) ((rows[i.toNat]?).getD none) := by unfold midR; rw [if_neg (by omega)]
      have hole : ole ((rows[(i - 1).toNat]?).getD none) ((rows[i.toNat]?).getD none) := by
        rw [List.getElem?_eq_getElem (show (i - 1).toNat < rows.length by omega), List.getElem?_eq_getElem (show i.toNat < rows.length by omega)]
        exact List.pairwise_iff_getElem.mp ho _ _ (by omega) (by omega) (by omega)
      have q : QD (.own ((rows.take i.toNat ++ List.replicate n.toNat (midR rows i) ++ rows.drop i.toNat).map oL)) := q
      rw [eb] at q
      generalize (rows[(i - 1).toNat]?).getD none = y at *
      generalize (rows[i.toNat]?).getD none = x at *
      cases y with
      | none =>
        simp [t__law_step, Cmd.d_ins, ct, cd, i1, i2, p0, p1, hi, hmm, repl_flat]
        refine ⟨by omega, by omega, ?_⟩
        simpa [midL] using q
      | some y => cases x with
        | none => exact hole.elim
        | some x =>
          simp [t__law_step, Cmd.d_ins, ct, cd, i1, i2, p0, p1, hi, hmm, repl_flat, labD]
          refine ⟨by omega, by omega, ?_⟩
          simpa [midL, labD] using q
    · have hi0 : i = 0 := by omega
      subst hi0
      have q : QD (.own ((rows.take 0 ++ List.replicate n.toNat (midR rows 0) ++ rows.drop 0).map oL)) := q
      have em : midR rows 0 = none := rfl
      rw [em] at q
      simp [t__law_step, Cmd.d_ins, ct, cd, i1, i2, p0, hmm, repl_flat]
      refine ⟨by omega, ?_⟩
      simpa using q
theorem pure__law_walk : Pure C__law_walk t__law_walk N__law_walk := by
  rintro ds QD ⟨cs, n, rfl, hn, h1, h2, hlen, hins, q⟩
  simp [t__law_walk, -rangeL]
  refine ⟨by omega, ?_⟩
  refine comp_range (fun k => some (oL (some ((k : Int), (k : Int))))) (n := n) (by omega) (fun k hk acc C ha hC => ?_) ?_
  · simpa [le1__law_walk_e, ha, labD] using hC
  have e0 : (List.range n).filterMap (fun k : Nat => some (oL (some ((k : Int), (k : Int))))) = (olds 0 n).map oL := by
    rw [List.filterMap_eq_map']
    simp [olds, Function.comp_def]
  rw [e0]
  simp [-rangeL]
  refine for_map Cmd.d (fun pre τ => ∃ s3, τ = [.v 1 (.lst (cmdsD cs)), .v 2 (.int n), .v 2 (.lst ((pre.foldl stepR (olds 0 n)).map oL)), s3, .un]) ⟨_, rfl⟩ (fun pre c post τ E' e _ _ _ hE _ h => ?_) fun τ h => ?_
  · obtain ⟨s3, rfl⟩ := h
    obtain ⟨o1, o2, o3⟩ := take_walk hn h1 e
    have hl := hlen pre.length (by rw [e]; simp)
    rw [← lenAll_take e] at hl
    have := hE _ ⟨.v 2 c.d, rfl⟩
    simp [lb2__law_walk_e]
    refine ⟨_, c, rfl, by rw [o2]; exact o3.1, o1, by omega, hins c (by rw [e]; simp), ?_⟩
    simpa using this
  · obtain ⟨s3, rfl⟩ := h
    simpa using q
theorem lk_pc (p : Pc) : lk p.d = true := by
  have s1 : PyData.strOk ("top" : Str) = true := by decide +kernel
  have s2 : PyData.strOk ("old" : Str) = true := by decide +kernel
  have s3 : PyData.strOk ("new" : Str) = true := by decide +kernel
  cases p with
  | top n => simp [Pc.d, s1]
  | old a b => cases b <;> simp [Pc.d, s2]
  | new l h n => simp [Pc.d, s3]
theorem lks_pcs (ps : List Pc) : lks (pcsD ps) = true := by
  induction ps with
  | nil => rfl
  | cons p ps ih => simp [lk_pc, ih]
theorem pure__law_is_layout : Pure C__law_is_layout t__law_is_layout N__law_is_layout := by
  rintro ds QD ⟨rows, ps, v, rfl, L, hl, hp, q⟩
  have e := L.roll_eq
  simp [t__law_is_layout]
  refine ⟨rows, rfl, ⟨v, L.lst⟩, hl, ?_⟩
  rw [e]
  simp
  refine ⟨.lst (pcsD ps), rfl, by simp [lks_pcs, hp], ?_, by simpa using q⟩
  have := deps_pcs1 ps
  simp
theorem pure__law_due_command : Pure C__law_due_command t__law_due_command N__law_due_command := by
  rintro ds QD ⟨its, rfl, hl, q⟩
  simp [t__law_due_command, -rangeL]
  refine ⟨by omega, ?_⟩
  refine for_rng (n := its.length) (fun k τ => (∃ s1 s2, τ = [.v 1 (.lst (itsD its)), s1, s2]) ∧ badIt k (its.drop k) = badIt 0 its) ⟨⟨_, _, rfl⟩, rfl⟩ (fun k τ E' hk hrt _ _ hE _ h => ?_) fun τ h => ?_
  · obtain ⟨⟨s1, s2, rfl⟩, hb⟩ := h
    rw [List.drop_eq_getElem_cons hk, badIt_cons] at hb
    have p : L2.atI (itsD its) ((k : Int)) = some its[k].d := by rw [atI_k]; simp [itsD, hk]
    generalize its[k] = it at *
    have hN := fun z => hE _ ⟨⟨.v 2 (.int k), .v 2 it.d, rfl⟩, z⟩
    have hR : it.ok = false → E'.rt (.v 2 (.int k)) := fun z => by
      rw [z] at hb
      rw [← show some k = badIt 0 its from hb] at q
      rw [hrt]
      simpa [oI] using q
    have hN : it.ok = true → E'.nx [.v 1 (.lst (itsD its)), .v 2 (.int k), .v 2 it.d] := fun z => hN (by rw [z, if_pos rfl] at hb; exact hb)
    clear hE hb
    cases it with
    | cmd c => cases c with
      | ins i n =>
        have hN : 0 ≤ i → 1 ≤ n → _ := fun a b => hN (by simp [Itm.ok, Cmd.ok]; omega)
        have hR : ¬ (0 ≤ i ∧ 1 ≤ n) → _ := fun a => hR (by simp [Itm.ok, Cmd.ok]; omega)
        simp [Itm.d, Cmd.d] at hN
        simp [lb1__law_due_command_e, p, Itm.d, Cmd.d]
        by_cases c1 : i < 0
        · simpa [c1] using hR (by omega)
        · by_cases c2 : n < 1
          · simpa [c1, c2] using hR (by omega)
          · simpa [c1, c2] using hN (by omega) (by omega)
      | del a b =>
        have hN : 0 ≤ a → a ≤ b → _ := fun x y => hN (by simp [Itm.ok, Cmd.ok]; omega)
        have hR : ¬ (0 ≤ a ∧ a ≤ b) → _ := fun x => hR (by simp [Itm.ok, Cmd.ok]; omega)
        simp [Itm.d, Cmd.d] at hN
        simp [lb1__law_due_command_e, p, Itm.d, Cmd.d]
        by_cases c1 : 0 ≤ a
        · by_cases c2 : a ≤ b
          · have c3 : ¬ b < a := by omega
            simpa [c1, c2, c3] using hN c1 c2
          · have c3 : b < a := by omega
            simpa [c1, c2, c3] using hR (by omega)
        · simpa [c1] using hR (by omega)
    | odd o =>
      cases o <;> simp [lb1__law_due_command_e, p, Itm.d, Odd.d] <;> exact hR rfl
  · obtain ⟨⟨s1, s2, rfl⟩, hb⟩ := h
    rw [List.drop_length] at hb
    rw [← show none = badIt 0 its from hb] at q
    simpa [oI] using q
theorem pure__law_odd_command : Pure C__law_odd_command t__law_odd_command N__law_odd_command := by
  rintro ds QD ⟨rfl, q⟩
  unfold t__law_odd_command
  have c1 : CPow 10 20 := ⟨by decide, by decide, by decide⟩
  refine seq_j fun R hR => ?_
  have q1 := q (.cmd (.ins (-1) 1)) rfl
  have q2 := q (.cmd (.ins 2 0)) rfl
  have q3 := q (.cmd (.ins 2 (-3))) rfl
  have q4 := q (.cmd (.del 3 2)) rfl
  have q5 := q (.cmd (.del (-1) 2)) rfl
  have q6 := q (.odd .move) rfl
  have q7 := q (.odd .ins1) rfl
  have q8 := q (.odd .nil) rfl
  have q9 := q (.odd .Ins) rfl
  have q10 := q (.odd .del3) rfl
  have q11 := q (.odd .del0) rfl
  have q12 := q (.odd .empty) rfl
  have q13 := q (.cmd (.ins 0 (-(10 ^ 20)))) rfl
  unfold dSetO
  rw [lst_c (ds := [(Itm.cmd (.ins (-1) 1)).d, (Itm.cmd (.ins 2 0)).d, (Itm.cmd (.ins 2 (-3))).d, (Itm.cmd (.del 3 2)).d, (Itm.cmd (.del (-1) 2)).d, (Itm.odd .move).d]) (by repeat first | exact ca_nil | refine ca_cons ?_ ?_ | exact ce_k | exact ce_neg | refine ce_tup ?_)]
  simp
  subst hR
  refine seq_j fun R hR => ?_
  unfold dSetO
  refine cat_c (ds := [(Itm.odd .ins1).d, (Itm.odd .nil).d, (Itm.odd .Ins).d, (Itm.odd .del3).d, (Itm.odd .del0).d, (Itm.odd .empty).d]) (by repeat first | exact ca_nil | refine ca_cons ?_ ?_ | exact ce_k | exact ce_neg | refine ce_tup ?_) rfl (by simp) (by simp) rfl ?_
  simp
  subst hR
  refine seq_j fun R hR => ?_
  simp
  refine ⟨c1, ?_⟩
  subst hR
  simp
  refine ⟨by simp, by simp, by simp, fun d hd => ?_⟩
  simp only [List.mem_cons, List.not_mem_nil, or_false] at hd
  rcases hd with rfl | rfl | rfl | rfl | rfl | rfl | rfl | rfl | rfl | rfl | rfl | rfl | rfl
  · simpa using q1
  · simpa using q2
  · simpa using q3
  · simpa using q4
  · simpa using q5
  · simpa using q6
  · simpa using q7
  · simpa using q8
  · simpa using q9
  · simpa using q10
  · simpa using q11
  · simpa using q12
  · simpa [Itm.d, Cmd.d] using q13
theorem pure2__law_of : ∀ ds QD, C2__law_of ds QD → t__law_of { nx := fun _ => QD (.v 2 .non), rt := QD } (startD2 N__law_of ds) := by
  intro ds QD h
  unfold C2__law_of at h
  split at h
  · rename_i es
    obtain ⟨h2, h3, q⟩ := h
    simp [t__law_of]
    refine ⟨by omega, by omega, fun k k1 k2 => ?_⟩
    obtain ⟨j, rfl⟩ := Int.eq_ofNat_of_zero_le k1
    have hj : j < es.length := by omega
    have e : L2.atI es (j : Int) = some es[j] := by rw [atI_k, List.getElem?_eq_getElem hj]
    have := q es[j] (List.getElem_mem hj)
    simpa [e] using this
  · exact h.elim
end PR
/-! PLB: the drawing list is made. -/
namespace PR
open PySem PySem.Spec PyProof.Rows L2 DL
abbrev N_bag : List Str := ["_law_script", "_law_mix", "_law_figure"]
def lb_bag : DTS := (dSet 1 (dOp fMod (dOp fAdd (dOp fAdd (dOp fMul (dVar 1) (dK (.int 39373))) (dOp fMod (dVar 2) (dK (.int 2147483563)))) (dK (.int 29))) (dK (.int 2147483563))))
theorem lb_bag_e (E : DEnds) (τ : DSt) : lb_bag E τ = (dSet 1 (dOp fMod (dOp fAdd (dOp fAdd (dOp fMul (dVar 1) (dK (.int 39373))) (dOp fMod (dVar 2) (dK (.int 2147483563)))) (dK (.int 29))) (dK (.int 2147483563)))) E τ := rfl
/-- by the number that it begins with -/
def t_bag (c : Int) : DTS := (dSeq (dSet 1 (dK (.int c))) (dSeq (dFor (dSl (dVar 0) oNone (oSome (dK (.int 63)))) (gN 2) lb_bag) (dRet (dLst (aCons (dCB fList (aCons (dSl (dVar 0) oNone (oSome (dK (.int 63)))) aNil)) (aCons (dK (.int 0)) (aCons (dK (.int 0)) (aCons (dVar 1) (aCons (dK (.int 0)) aNil)))))))))
theorem loop_bag {E : DEnds} {s0 : Sl} : ∀ (ns : List Int) (m : Int) (s2 : Sl), 0 ≤ m ∧ m < 2147483563 → (∀ m s2, 0 ≤ m → m < 2147483563 → E.nx [s0, .v 2 (.int m), s2]) → forRec 2 (gN 2) lb_bag E (ns.map D.int) [s0, .v 2 (.int m), s2]
  | [], m, s2, hm, h => by simpa using h m s2 hm.1 hm.2
  | n :: ns, m, s2, hm, h => by
    have c1 : ∀ y : Int, CMul m y := fun y => .inl ⟨by omega, by omega⟩
    have hz : ∀ z : Int, 0 ≤ z % 2147483563 ∧ z % 2147483563 < 2147483563 := fun z => ⟨Int.emod_nonneg z (by decide), Int.emod_lt_of_pos z (by decide)⟩
    have ih := fun m s2 hm => loop_bag (E := E) (s0 := s0) ns m s2 hm h
    simp [lb_bag_e, c1]
    exact ih _ _ (hz _)
theorem cut_ints (ns : List Int) (l h : Option Int) : cutG (ns.map D.int) l h = (cutG ns l h).map D.int := by
  unfold cutG
  rw [List.map_take, List.map_drop, List.length_map]
theorem pure_bag (c : Int) (hc : 0 ≤ c ∧ c < 2147483563) : ∀ ds QD, C_bag ds QD → t_bag c { nx := fun _ => QD (.v 2 .non), rt := QD } (startD N_bag ds) := by
  intro ds QD h
  match ds, h with
  | [.scr ns], q =>
    simp [t_bag, cut_ints]
    refine loop_bag _ _ _ hc fun m s2 h1 h2 => ?_
    simp [cut_ints]
    exact q _ m h1 h2
theorem C_bag_len (ds : List D) (Q : Sl → Prop) (h : C_bag ds Q) : ds.length = 1 := by
  unfold C_bag at h
  split at h
  · rfl
  · exact h.elim
theorem C_of_len (ds : List D) (Q : Sl → Prop) (h : C_of ds Q) : ds.length = 2 := by
  unfold C_of at h
  split at h
  · rfl
  · exact h.elim
end PR
/-! law_k04_rows_of_layouts: its own readings, its derivations, its head (printed by mkL.py around its plain text). -/
namespace PR
open PySem PySem.Spec PyProof.Rows L2 DL


abbrev N_law : List Str := ["_law_script", "_law_bag_here", "_law_turn", "_law_rows", "_law_layout", "_law_pieces", "_law_tail", "_law_first", "_law_due", "_law_far_here", "_law_words", "_law_row", "_law_k"]
abbrev P_law : List Str := ["_law_script"]
def le1_law : DTE := (dMeth 0 C_Layout_row [] (dVar 4) (aCons (dVar 12) aNil))
theorem le1_law_e (τ : DSt) (Q : Sl → Prop) : le1_law τ Q = (dMeth 0 C_Layout_row [] (dVar 4) (aCons (dVar 12) aNil)) τ Q := rfl
def le2_law : DTE := (dIfE (tV (dOp fIn (dTup (aCons (dVar 11) (aCons (dVar 11) aNil))) (dVar 3))) (dIndex (dVar 3) (dTup (aCons (dVar 11) (aCons (dVar 11) aNil)))) (dK .non))
theorem le2_law_e (τ : DSt) (Q : Sl → Prop) : le2_law τ Q = (dIfE (tV (dOp fIn (dTup (aCons (dVar 11) (aCons (dVar 11) aNil))) (dVar 3))) (dIndex (dVar 3) (dTup (aCons (dVar 11) (aCons (dVar 11) aNil)))) (dK .non)) τ Q := rfl
def le3_law : DTE := (dMeth 0 C_Layout_where [] (dVar 4) (aCons (dVar 11) aNil))
theorem le3_law_e (τ : DSt) (Q : Sl → Prop) : le3_law τ Q = (dMeth 0 C_Layout_where [] (dVar 4) (aCons (dVar 11) aNil)) τ Q := rfl
def lb4_law : DTS := (dSeq (dSet 3 (dCall C__law_any_rows [] (aCons (dVar 1) (aCons (dK (.int 6)) aNil)))) (dSeq (dAsg (dTup (aCons (dCall C__law_made_of [] (aCons (dVar 3) aNil)) (aCons (dCall C__law_rolled [] (aCons (dVar 3) aNil)) aNil))) (gT 2 (gsCons (gN 4) (gsCons (gN 5) gsNil)))) (dSeq (dIf (tvNot (tV (dCall C__law_like [] (aCons (dLcR (aCons (dCB fLen (aCons (dVar 3) aNil)) aNil) (gN 12) tYesD le1_law [12]) (aCons (dVar 3) aNil))))) (dRet (dK (.bl false))) dNext) (dSeq (dSet 6 (dIxK 1 (dIxL (dVar 5)))) (dSeq (dSet 7 (dIndex (dVar 3) (dTup (aCons (dVar 6) (aCons (dVar 6) aNil))))) (dSeq (dSet 8 (dLcR (aCons (dOp fAdd (dVar 6) (dK (.int 9))) aNil) (gN 11) tYesD le2_law [11])) (dSeq (dIf (tvNot (tV (dCall C__law_like [] (aCons (dLcR (aCons (dCB fLen (aCons (dVar 8) aNil)) aNil) (gN 11) tYesD le3_law [11]) (aCons (dSl (dVar 8) oNone (oSome (dCB fLen (aCons (dVar 8) aNil)))) aNil))))) (dRet (dK (.bl false))) dNext) (dSeq (dIf (tvNot (tV (dCall C__law_like [] (aCons (dLst (aCons (dProp 0 C_Layout_top (dVar 4)) (aCons (dProp 0 C_Layout_tail (dVar 4)) (aCons (dProp 0 C_Layout_shift (dVar 4)) aNil)))) (aCons (dLst (aCons (dCount (dVar 3) (dK .non)) (aCons (dVar 6) (aCons (dOp fSub (dVar 7) (dVar 6)) aNil)))) aNil))))) (dRet (dK (.bl false))) dNext) (dSeq (dSet 9 (dCall C__law_far [] (aCons (dVar 1) aNil))) (dSeq (dIf (tvNot (tV (dCall C__law_like [] (aCons (dLst (aCons (dMeth 0 C_Layout_where [] (dVar 4) (aCons (dOp fAdd (dVar 6) (dVar 9)) aNil)) (aCons (dMeth 0 C_Layout_row [] (dVar 4) (aCons (dOp fAdd (dVar 7) (dVar 9)) aNil)) aNil))) (aCons (dLst (aCons (dOp fAdd (dVar 7) (dVar 9)) (aCons (dTup (aCons (dOp fAdd (dVar 6) (dVar 9)) (aCons (dOp fAdd (dVar 6) (dVar 9)) aNil))) aNil))) aNil))))) (dRet (dK (.bl false))) dNext) (dSeq (dSet 10 (dLst (aCons (dTold (dMethX 0 X_Layout_row [] (dVar 4) (aCons (dOp fSub (dK (.int 0)) (dVar 9)) aNil))) (aCons (dTold (dMethX 0 X_Layout_where [] (dVar 4) (aCons (dOp fSub (dK (.int 0)) (dVar 9)) aNil))) aNil)))) (dIf (tvOr (tV (dOp fNe (dVar 10) (dOp fMul (dLst (aCons (dTup (aCons (dK (.str "BadRow")) (aCons (dOp fSub (dK (.int 0)) (dVar 9)) aNil))) aNil)) (dK (.int 2))))) (tvNot (tV (dCall C__law_is_layout [] (aCons (dVar 4) (aCons (dVar 3) aNil)))))) (dRet (dK (.bl false))) dNext))))))))))))
theorem lb4_law_e (E : DEnds) (τ : DSt) : lb4_law E τ = (dSeq (dSet 3 (dCall C__law_any_rows [] (aCons (dVar 1) (aCons (dK (.int 6)) aNil)))) (dSeq (dAsg (dTup (aCons (dCall C__law_made_of [] (aCons (dVar 3) aNil)) (aCons (dCall C__law_rolled [] (aCons (dVar 3) aNil)) aNil))) (gT 2 (gsCons (gN 4) (gsCons (gN 5) gsNil)))) (dSeq (dIf (tvNot (tV (dCall C__law_like [] (aCons (dLcR (aCons (dCB fLen (aCons (dVar 3) aNil)) aNil) (gN 12) tYesD le1_law [12]) (aCons (dVar 3) aNil))))) (dRet (dK (.bl false))) dNext) (dSeq (dSet 6 (dIxK 1 (dIxL (dVar 5)))) (dSeq (dSet 7 (dIndex (dVar 3) (dTup (aCons (dVar 6) (aCons (dVar 6) aNil))))) (dSeq (dSet 8 (dLcR (aCons (dOp fAdd (dVar 6) (dK (.int 9))) aNil) (gN 11) tYesD le2_law [11])) (dSeq (dIf (tvNot (tV (dCall C__law_like [] (aCons (dLcR (aCons (dCB fLen (aCons (dVar 8) aNil)) aNil) (gN 11) tYesD le3_law [11]) (aCons (dSl (dVar 8) oNone (oSome (dCB fLen (aCons (dVar 8) aNil)))) aNil))))) (dRet (dK (.bl false))) dNext) (dSeq (dIf (tvNot (tV (dCall C__law_like [] (aCons (dLst (aCons (dProp 0 C_Layout_top (dVar 4)) (aCons (dProp 0 C_Layout_tail (dVar 4)) (aCons (dProp 0 C_Layout_shift (dVar 4)) aNil)))) (aCons (dLst (aCons (dCount (dVar 3) (dK .non)) (aCons (dVar 6) (aCons (dOp fSub (dVar 7) (dVar 6)) aNil)))) aNil))))) (dRet (dK (.bl false))) dNext) (dSeq (dSet 9 (dCall C__law_far [] (aCons (dVar 1) aNil))) (dSeq (dIf (tvNot (tV (dCall C__law_like [] (aCons (dLst (aCons (dMeth 0 C_Layout_where [] (dVar 4) (aCons (dOp fAdd (dVar 6) (dVar 9)) aNil)) (aCons (dMeth 0 C_Layout_row [] (dVar 4) (aCons (dOp fAdd (dVar 7) (dVar 9)) aNil)) aNil))) (aCons (dLst (aCons (dOp fAdd (dVar 7) (dVar 9)) (aCons (dTup (aCons (dOp fAdd (dVar 6) (dVar 9)) (aCons (dOp fAdd (dVar 6) (dVar 9)) aNil))) aNil))) aNil))))) (dRet (dK (.bl false))) dNext) (dSeq (dSet 10 (dLst (aCons (dTold (dMethX 0 X_Layout_row [] (dVar 4) (aCons (dOp fSub (dK (.int 0)) (dVar 9)) aNil))) (aCons (dTold (dMethX 0 X_Layout_where [] (dVar 4) (aCons (dOp fSub (dK (.int 0)) (dVar 9)) aNil))) aNil)))) (dIf (tvOr (tV (dOp fNe (dVar 10) (dOp fMul (dLst (aCons (dTup (aCons (dK (.str "BadRow")) (aCons (dOp fSub (dK (.int 0)) (dVar 9)) aNil))) aNil)) (dK (.int 2))))) (tvNot (tV (dCall C__law_is_layout [] (aCons (dVar 4) (aCons (dVar 3) aNil)))))) (dRet (dK (.bl false))) dNext)))))))))))) E τ := rfl
def t_law : DTS := (dSeq (dForR (aCons (dK (.int 3)) aNil) (gN 2) lb4_law) (dRet (dK (.bl true))))
abbrev N__law_bag : List Str := ["_law_script", "_law_mix", "_law_figure"]
abbrev P__law_bag : List Str := ["_law_script"]
abbrev t__law_bag : DTS := t_bag 3804
theorem pure__law_bag : Pure C__law_bag t__law_bag N__law_bag := pure_bag 3804 (by decide)

theorem use_tail {ps : List Pc} (h : Lay ps) {Q : Sl → Prop} (q : Q (.v 2 (.int (tailF ps)))) : C_Layout_tail [layD ps] Q := ⟨ps, rfl, h, q⟩
theorem use_shift {ps : List Pc} (h : Lay ps) (hl : ps.length < 1000) {Q : Sl → Prop} (q : Q (.v 2 (.int (shiftF ps)))) : C_Layout_shift [layD ps] Q := ⟨ps, rfl, h, hl, q⟩
theorem use_top {ps : List Pc} (h : Lay ps) {Q : Sl → Prop} (q : Q (.v 2 (.int (topF ps)))) : C_Layout_top [layD ps] Q := ⟨ps, rfl, h, q⟩
theorem use_likeD {x y : D} {Q : Sl → Prop} (e : x = y) (h1 : lk x = true) (h2 : dep x ≤ 10) (q : Q (.v 2 (.bl true))) : C__law_like [x, y] Q := by
  subst e
  exact ⟨_, rfl, h1, h2, q⟩
theorem seq_i {t u : DTS} {D : DEnds} {τ : DSt} (h : ∀ R : DSt → Prop, R = u D → t { D with nx := R } τ) : dSeq t u D τ := h _ rfl
theorem eqB_old (y : Option Lab) (x : Int) : eqB (oL y) (.tup [.int x, .int x]) = decide (y = some (x, x)) := by
  cases y with
  | none => rfl
  | some y =>
    obtain ⟨a, b⟩ := y
    simp [oL, labD]
    try (rw [Bool.eq_iff_iff]; simp)
theorem eqB_non (y : Option Lab) : eqB (oL y) .non = y.isNone := by
  cases y with
  | none => rfl
  | some y => simp [oL, labD]
theorem lk_oL (y : Option Lab) : lk (oL y) = true := by
  cases y with
  | none => rfl
  | some y => obtain ⟨a, b⟩ := y; simp [oL, labD]
@[simp] theorem lks_oLs (ys : List (Option Lab)) : lks (ys.map oL) = true := by
  induction ys with
  | nil => rfl
  | cons y ys ih => simp [ih, lk_oL]
theorem lays_oLs (ys : List (Option Lab)) : lays (ys.map oL) = true := by
  induction ys with
  | nil => rfl
  | cons y ys ih => cases y <;> simp [oL, labD, ih]
theorem deps_oLs (ys : List (Option Lab)) : deps (ys.map oL) ≤ 1 := by
  induction ys with
  | nil => simp
  | cons y ys ih => cases y <;> simp [oL, labD] <;> omega
theorem lks_oDs (xs : List (Option Int)) : lks (xs.map oD) = true := by
  induction xs with
  | nil => rfl
  | cons y ys ih => cases y <;> simp [ih]
theorem deps_oDs (xs : List (Option Int)) : deps (xs.map oD) = 0 := by
  induction xs with
  | nil => rfl
  | cons y ys ih => cases y <;> simp [ih]
theorem any_old (rows : List (Option Lab)) (x : Int) : ((rows.map oL).any fun z => eqB z (.tup [.int x, .int x])) = rows.any fun y => decide (y = some (x, x)) := by
  rw [List.any_map]
  congr 1
  funext y
  exact eqB_old y x
theorem index_old {rows : List (Option Lab)} {ps : List Pc} {v : Int} (L : Lays rows ps v) {x r : Int} (hr : 0 ≤ r) (e : lab ps r = some (x, x)) (hx : x ≤ v) :
    idxD (rows.map oL) (.tup [.int x, .int x]) < rows.length ∧ ((idxD (rows.map oL) (.tup [.int x, .int x]) : Nat) : Int) = r ∧ (rows.any fun y => decide (y = some (x, x))) = true := by
  have hl := L.inside_old hr e hx
  obtain ⟨k, rfl⟩ := Int.eq_ofNat_of_zero_le hr
  have hk : k < rows.length := by omega
  have ek : rows[k] = some (x, x) := by
    have := L.row hk
    rw [List.getElem?_eq_getElem hk] at this
    injection this with this
    rw [this]
    exact e
  have hf : idxD (rows.map oL) (.tup [.int x, .int x]) = k := by
    unfold idxD
    refine (List.findIdx_eq (by simpa using hk)).mpr ⟨?_, fun j hj => ?_⟩
    · rw [List.getElem_map, eqB_old, ek]
      simp
    · rw [List.getElem_map, eqB_old, decide_eq_false_iff_not]
      intro z
      have := L.row (show j < rows.length by omega)
      rw [List.getElem?_eq_getElem (by omega), z] at this
      injection this with this
      have := lab_uniq L.wh (by omega) (by omega) this.symm e
      omega
  refine ⟨by rw [hf]; exact hk, by rw [hf], ?_⟩
  rw [List.any_eq_true]
  exact ⟨_, List.getElem_mem hk, by rw [ek]; simp⟩
theorem any_none {rows : List (Option Lab)} {ps : List Pc} {v : Int} (L : Lays rows ps v) {x : Int} (e : whF ps x = none) : (rows.any fun y => decide (y = some (x, x))) = false := by
  rw [List.any_eq_false]
  intro y hy
  obtain ⟨k, hk, rfl⟩ := List.getElem_of_mem hy
  have := L.row hk
  rw [List.getElem?_eq_getElem hk] at this
  injection this with this
  rw [this]
  simp
  exact whG_none ps 0 x k L.wh.lay e (by omega)
theorem pure_law : t_law { nx := fun _ => False, rt := fun sl => ∃ g, sl = .v g (.bl true) } (startL N_law) := by
  simp [t_law, -rangeL]
  refine for_rng (n := 3) (fun k τ => ∃ s0 s2 s3 s4 s5 s6 s7 s8 s9 s10 s11 s12, τ = [s0, .v 2 .bag, s2, s3, s4, s5, s6, s7, s8, s9, s10, s11, s12]) ⟨_, _, _, _, _, _, _, _, _, _, _, _, rfl⟩ (fun k τ E' hk hrt _ _ hE _ h => ?_) fun τ h => ?_
  · obtain ⟨s0, s2, s3, s4, s5, s6, s7, s8, s9, s10, s11, s12, rfl⟩ := h
    have hE : ∀ s0 s2 s3 s4 s5 s6 s7 s8 s9 s10 s11 s12, E'.nx [s0, .v 2 .bag, s2, s3, s4, s5, s6, s7, s8, s9, s10, s11, s12] := fun s0 s2 s3 s4 s5 s6 s7 s8 s9 s10 s11 s12 => hE _ ⟨s0, s2, s3, s4, s5, s6, s7, s8, s9, s10, s11, s12, rfl⟩
    suffices go : ∀ d, lb4_law E' [s0, .v 2 .bag, d, s3, s4, s5, s6, s7, s8, s9, s10, s11, s12] by simpa using go _
    intro s2
    rw [lb4_law_e]
    refine seq_i fun R hR => ?_
    simp
    refine ⟨6, rfl, by decide, fun rows hr => ?_⟩
    simp
    subst hR
    obtain ⟨w, L, w0, w1, init, a, er, a0, aw⟩ := rows_tail hr
    obtain ⟨r9, rl⟩ := rows_len hr
    have pl : (roll rows).length ≤ rows.length := (rows_gr hr).choose_spec.2.lays.2
    have cn := count_none hr
    have hly := lays_oLs rows
    have hdp : deps (rows.map oL) ≤ 63 := by have := deps_oLs rows; omega
    refine seq_i fun R hR => ?_
    simp
    refine use_made hr (by decide) ?_
    simp
    refine ⟨rows, rfl, ⟨_, L.lst⟩, by omega, ?_⟩
    simp
    subst hR
    refine seq_i fun R hR => ?_
    simp [-rangeL]
    refine ⟨by omega, ?_⟩
    refine comp_range (fun k => some (oL (lab (roll rows) (k : Int)))) (n := rows.length) (by omega) (fun k hk acc C ha hC => ?_) ?_
    · simp [le1_law_e]
      rw [use_row L.wh.lay (by omega) (by omega)]
      simpa [ha] using hC
    have erow : (List.range rows.length).filterMap (fun k => some (oL (lab (roll rows) ((k : Nat) : Int)))) = rows.map oL := by
      rw [List.filterMap_eq_map']
      apply List.ext_getElem
      · simp
      · intro i h1 h2
        have hi : i < rows.length := by simpa using h2
        have := L.row hi
        rw [List.getElem?_eq_getElem hi] at this
        injection this with this
        simp [this]
    rw [erow]
    simp
    refine use_likeD rfl (by simp; omega) (by have := deps_oLs rows; simp; omega) ?_
    simp
    subst hR
    generalize hps : roll rows = ps at *
    have lay := L.wh.lay
    have tl : tailF ps = a := by rw [er]; simp
    have el : (pcsD ps).getLast? = some (.tup [.str "old", .int a, .non]) := by
      rw [er]
      simp [pcsD, Pc.d]
    refine seq_i fun R hR => ?_
    simp [el]
    subst hR
    refine seq_i fun R hR => ?_
    obtain ⟨ta, tb⟩ := tail_lab lay (v := a) (by omega)
    obtain ⟨f1, f2, f3⟩ := index_old L tb ta (by omega)
    simp [hly, hdp]
    refine ⟨f1, ?_⟩
    rw [f2]
    subst hR
    refine seq_i fun R hR => ?_
    simp [-rangeL]
    refine ⟨by omega, ?_⟩
    obtain ⟨n, hn⟩ : ∃ n : Nat, a + 9 = n := ⟨(a + 9).toNat, by omega⟩
    rw [hn]
    refine comp_range (fun k => some (oD (whF ps (k : Int)))) (n := n) (by omega) (fun k hk acc C ha hC => ?_) ?_
    · simp [le2_law_e, hly, hdp, -List.any_map]
      rw [any_old]
      cases e : whF ps (k : Int) with
      | none =>
        rw [e] at hC
        rw [any_none L e]
        simpa [ha] using hC
      | some r =>
        rw [e] at hC
        obtain ⟨r0, r1⟩ := (whF_iff L.wh).mp e
        obtain ⟨g1, g2, g3⟩ := index_old L r0 r1 (by omega)
        rw [g3]
        simp [hly, hdp]
        refine ⟨g1, ?_⟩
        rw [g2]
        simpa [ha] using hC
    rw [List.filterMap_eq_map']
    simp
    subst hR
    have emap : (List.range n).map (fun k => oD (whF ps ((k : Nat) : Int))) = ((List.range n).map fun k => whF ps ((k : Nat) : Int)).map oD := by simp
    rw [emap]
    generalize hdue : (List.range n).map (fun k => whF ps ((k : Nat) : Int)) = due at *
    have hdl : due.length = n := by rw [← hdue]; simp
    refine seq_i fun R hR => ?_
    simp [-rangeL, hdl]
    refine ⟨by omega, ?_⟩
    refine comp_range (fun k => some (oD (whF ps (k : Int)))) (n := n) (by omega) (fun k hk acc C ha hC => ?_) ?_
    · simp [le3_law_e]
      rw [use_where lay (by omega) (by omega)]
      simpa [ha] using hC
    rw [List.filterMap_eq_map', emap]
    simp [hdl]
    have ecut : cutG (due.map oD) none (some (n : Int)) = due.map oD := by
      rw [cutG_to _ _ (by omega), Int.toNat_natCast, List.take_of_length_le (by simp [hdl])]
    rw [ecut]
    refine use_likeD rfl (by simp [lks_oDs, hdl]; omega) (by simp [deps_oDs]) ?_
    simp
    subst hR
    refine seq_i fun R hR => ?_
    simp
    refine use_top lay ?_
    simp
    refine use_tail lay ?_
    simp
    refine use_shift lay (by omega) ?_
    simp [hly, hdp]
    have ecnt : ((cntD (rows.map oL) .non : Nat) : Int) = topF ps := by
      rw [← cn]
      unfold cntD
      rw [List.countP_map]
      congr 2
      funext y
      exact eqB_non y
    rw [ecnt, tl, show a + shiftF ps - a = shiftF ps by omega]
    refine use_likeD rfl (by simp) (by simp) ?_
    simp
    subst hR
    refine seq_i fun R hR => ?_
    simp
    refine use_far fun m hm => ?_
    simp
    subst hR
    obtain ⟨fa, fb⟩ := tail_lab lay (v := a + m) (by omega)
    have fw : whF ps (a + m) = some (a + m + shiftF ps) := (whF_iff L.wh).mpr ⟨fb, fa⟩
    refine seq_i fun R hR => ?_
    simp
    rw [use_where lay (by omega) (by omega), fw]
    simp
    rw [use_row lay (by omega) (by omega), show a + shiftF ps + m = a + m + shiftF ps by omega, fa]
    simp
    refine use_likeD rfl (by simp [labD]) (by simp [labD]) ?_
    simp
    subst hR
    refine seq_i fun R hR => ?_
    simp
    refine ⟨ps, -m, rfl, lay, by omega, fun z => by omega, fun _ => ⟨ok_badrow _, ?_⟩⟩
    simp
    refine ⟨ps, -m, rfl, lay, by omega, fun z => by omega, fun _ => ⟨ok_badrow _, ?_⟩⟩
    simp
    subst hR
    have sk : PyData.strOk ("BadRow" : Str) = true := by decide +kernel
    simp [sk]
    refine ⟨rows, ps, w, rfl, L, by omega, by omega, ?_⟩
    simp
    exact hE _ _ _ _ _ _ _ _ _ _ _ _
  · obtain ⟨s0, s2, s3, s4, s5, s6, s7, s8, s9, s10, s11, s12, rfl⟩ := h
    simp

/-! ### derivations -/
theorem sc__law_bag : FnScope N__law_bag P__law_bag (defScope s__law_bag) := ⟨rfl, rfl, rfl, by decide +kernel, rfl, by decide +kernel, by decide +kernel⟩
theorem w__law_bag {P : Program} {w : World} {K : PySem.W.Frag} {T : Tab} {mg : Str → Option Value} {base : Heap} (hB : Bl mg) {cdv : Value} {A : Around} {outer : List Env} {s : Shared} {H : Hp} {E : XK} {f : Addr} (hr : Room 0 (A.deeper (envOfC "_law_bag" (defScope s__law_bag) s.heap.objs.size f cdv))) :
    PSs ((cxOf CX0 P w K mg base N__law_bag "_law_bag" (defScope s__law_bag) f cdv A outer s H E).nox) (defBody s__law_bag) (UpS K T ⟨mg, E⟩ t__law_bag) :=
  (ds_cons (ds_set (i := 1) sc__law_bag.nd rfl (.inl rfl) de_int) (ds_cons (ds_for PassesOwn.never rfl (de_sl (de_var (i := 0) rfl (.inl rfl)) do_none (do_some de_int)) (dg_name sc__law_bag.nd rfl (.inl rfl)) (ds_one (ds_set (i := 1) sc__law_bag.nd rfl (.inl rfl) (de_mod (de_add (de_add (de_mul (de_var (i := 1) rfl (.inl rfl)) de_int) (de_mod (de_var (i := 2) rfl (.inl rfl)) de_int)) de_int) de_int)))) (ds_one (ds_ret (de_lst (da_cons (de_cb cb_list (pe_callTy call_list_of rfl hB.list_ (by decide +kernel) (da_cons (de_sl (de_var (i := 0) rfl (.inl rfl)) do_none (do_some de_int)) da_nil))) (da_cons de_int (da_cons de_int (da_cons (de_var (i := 1) rfl (.inl rfl)) (da_cons de_int da_nil))))))))))
theorem F__law_bag {P : Program} {w : World} {K : PySem.W.Frag} {T : Tab} {mg : Str → Option Value} {base : Heap} {f : Addr} {fd : FuncData} (F : FunD K "_law_bag" "_law_bag" (defArgs s__law_bag) (defBody s__law_bag) (defScope s__law_bag) [] [] f fd) (m : mg "_law_bag" = some (.ref f)) (hB : Bl mg) : Fn P w K T mg base "_law_bag" 1 [] C__law_bag := fn_mk F m (fn_ok F sc__law_bag C__law_bag t__law_bag (fun ds QD h => by first | exact C_bag_len ds QD h | exact C_of_len ds QD h | (obtain ⟨rfl, _⟩ := h; rfl) | (obtain ⟨_, rfl, _⟩ := h; rfl) | (obtain ⟨_, _, rfl, _⟩ := h; rfl) | (obtain ⟨_, _, _, rfl, _⟩ := h; rfl) | (obtain ⟨_, _, _, _, rfl, _⟩ := h; rfl) | (match ds, h with | [_], _ => rfl) | (match ds, h with | [_, _], _ => rfl)) (fun cdv A outer s H E hr => w__law_bag hB hr) pure__law_bag) (fun _ _ _ _ _ _ us hl => match us, hl with | [_], _ => rfl)
theorem sc__law_pull : FnScope N__law_pull P__law_pull (defScope s__law_pull) := ⟨rfl, rfl, rfl, by decide +kernel, rfl, by decide +kernel, by decide +kernel⟩
theorem w__law_pull {P : Program} {w : World} {K : PySem.W.Frag} {T : Tab} {mg : Str → Option Value} {base : Heap} (hB : Bl mg) {cdv : Value} {A : Around} {outer : List Env} {s : Shared} {H : Hp} {E : XK} {f : Addr} (hr : Room 0 (A.deeper (envOfC "_law_pull" (defScope s__law_pull) s.heap.objs.size f cdv))) :
    PSs ((cxOf CX0 P w K mg base N__law_pull "_law_pull" (defScope s__law_pull) f cdv A outer s H E).nox) (defBody s__law_pull) (UpS K T ⟨mg, E⟩ t__law_pull) :=
  (ds_cons (ds_asg (de_add (de_bg (j := 4) rfl rfl (.inl rfl)) de_int) (dg_bg (j := 4) rfl rfl (.inl rfl))) (ds_cons (ds_if (PW.pt (dw_and (dt_cmp (op_eqD (u64 hr)) r2_eq (de_bg (j := 2) rfl rfl (.inl rfl)) de_int (nomark _)) (dw_and1 (dt_cmp op_lt (r2_I0 fun _ _ => rfl) (de_bg (j := 1) rfl rfl (.inl rfl)) (de_cb cb_len (pe_callB call_len_seq rfl hB.len_ (by decide +kernel) (da_cons (de_bg (j := 0) rfl rfl (.inl rfl)) da_nil))) (nomark _))))) (ds_cons (ds_set (i := 3) sc__law_pull.nd rfl (.inl rfl) (de_ixE (de_bg (j := 0) rfl rfl (.inl rfl)) (de_bg (j := 1) rfl rfl (.inl rfl)) (fun _ _ => rfl))) (ds_cons (ds_asg (de_add (de_bg (j := 1) rfl rfl (.inl rfl)) de_int) (dg_bg (j := 1) rfl rfl (.inl rfl))) (ds_one (ds_if (dt_cmp op_ge (r2_I0 fun _ _ => rfl) (de_var (i := 3) rfl (.inl rfl)) (de_pow de_int de_int) (nomark _)) (ds_one (ds_asg (de_var (i := 3) rfl (.inl rfl)) (dg_bg (j := 2) rfl rfl (.inl rfl)))) (ds_cons (ds_set (i := 2) sc__law_pull.nd rfl (.inl rfl) (de_add (de_mul (de_bg (j := 3) rfl rfl (.inl rfl)) de_int) (de_mul (de_mod (de_var (i := 3) rfl (.inl rfl)) de_int) de_int))) (ds_one (ds_asg (de_mod (de_add (de_var (i := 2) rfl (.inl rfl)) de_int) de_int) (dg_bg (j := 3) rfl rfl (.inl rfl))))))))) ds_nil) (ds_cons (ds_if (dt_cmp op_gt (r2_I0 fun _ _ => rfl) (de_bg (j := 2) rfl rfl (.inl rfl)) de_int (nomark _)) (ds_cons (ds_set (i := 4) sc__law_pull.nd rfl (.inl rfl) (de_mod (de_bg (j := 2) rfl rfl (.inl rfl)) (de_var (i := 1) rfl (.inl rfl)))) (ds_cons (ds_asg (de_fdiv (de_bg (j := 2) rfl rfl (.inl rfl)) (de_var (i := 1) rfl (.inl rfl))) (dg_bg (j := 2) rfl rfl (.inl rfl))) (ds_one (ds_retB (de_var (i := 4) rfl (.inl rfl)))))) ds_nil) (ds_cons (ds_set (i := 2) sc__law_pull.nd rfl (.inl rfl) (de_add (de_mul (de_mul (de_bg (j := 3) rfl rfl (.inl rfl)) (de_bg (j := 3) rfl rfl (.inl rfl))) de_int) (de_mul (de_bg (j := 3) rfl rfl (.inl rfl)) de_int))) (ds_cons (ds_asg (de_mod (de_add (de_var (i := 2) rfl (.inl rfl)) (de_mul de_int (de_bg (j := 4) rfl rfl (.inl rfl)))) de_int) (dg_bg (j := 3) rfl rfl (.inl rfl))) (ds_one (ds_retB (de_mod (de_fdiv (de_bg (j := 3) rfl rfl (.inl rfl)) de_int) (de_var (i := 1) rfl (.inl rfl))))))))))
theorem F__law_pull {P : Program} {w : World} {K : PySem.W.Frag} {T : Tab} {mg : Str → Option Value} {base : Heap} {f : Addr} {fd : FuncData} (F : FunD K "_law_pull" "_law_pull" (defArgs s__law_pull) (defBody s__law_pull) (defScope s__law_pull) [] [] f fd) (m : mg "_law_pull" = some (.ref f)) (hB : Bl mg) : Fn P w K T mg base "_law_pull" 1 [] C_pull := fn_mk F m (pull_ok F sc__law_pull t__law_pull rfl (fun cdv A outer s H E hr => w__law_pull hB hr) pure__law_pull) (fun _ _ _ _ _ _ us hl => match us, hl with | [_, _], _ => rfl)
theorem sc__law_of : FnScope N__law_of P__law_of (defScope s__law_of) := ⟨rfl, rfl, rfl, by decide +kernel, rfl, by decide +kernel, by decide +kernel⟩
theorem w__law_of {P : Program} {w : World} {K : PySem.W.Frag} {T : Tab} {mg : Str → Option Value} {base : Heap} (D__law_pull : Fn P w K T mg base "_law_pull" 1 [] C__law_pull) (hB : Bl mg) {cdv : Value} {A : Around} {outer : List Env} {s : Shared} {H : Hp} {E : XK} {f : Addr} (hr : Room 1 (A.deeper (envOfC "_law_of" (defScope s__law_of) s.heap.objs.size f cdv))) :
    PSs ((cxOf CX0 P w K mg base N__law_of "_law_of" (defScope s__law_of) f cdv A outer s H E).nox) (defBody s__law_of) (UpS K T ⟨mg, E⟩ t__law_of) :=
  (ds_one (ds_ret (de_ixE (de_var (i := 1) rfl (.inl rfl)) (de_fn D__law_pull (hr.mono (by decide)) rfl (da_cons (de_var (i := 0) rfl (.inl rfl)) (da_cons (de_cb cb_len (pe_callB call_len_seq rfl hB.len_ (by decide +kernel) (da_cons (de_var (i := 1) rfl (.inl rfl)) da_nil))) da_nil))) (fun _ _ => rfl))))
theorem F__law_of {P : Program} {w : World} {K : PySem.W.Frag} {T : Tab} {mg : Str → Option Value} {base : Heap} {f : Addr} {fd : FuncData} (F : FunD K "_law_of" "_law_of" (defArgs s__law_of) (defBody s__law_of) (defScope s__law_of) [] [] f fd) (m : mg "_law_of" = some (.ref f)) (D__law_pull : Fn P w K T mg base "_law_pull" 1 [] C__law_pull) (hB : Bl mg) : Fn P w K T mg base "_law_of" 2 [] C__law_of := fn_mk F m (fn_ok F sc__law_of C__law_of t__law_of (fun ds QD h => by first | exact C_bag_len ds QD h | exact C_of_len ds QD h | (obtain ⟨rfl, _⟩ := h; rfl) | (obtain ⟨_, rfl, _⟩ := h; rfl) | (obtain ⟨_, _, rfl, _⟩ := h; rfl) | (obtain ⟨_, _, _, rfl, _⟩ := h; rfl) | (obtain ⟨_, _, _, _, rfl, _⟩ := h; rfl) | (match ds, h with | [_], _ => rfl) | (match ds, h with | [_, _], _ => rfl)) (fun cdv A outer s H E hr => w__law_of D__law_pull hB hr) pure__law_of) (fun _ _ _ _ _ _ us hl => match us, hl with | [_, _], _ => rfl)
theorem sc__law_any_rows : FnScope N__law_any_rows P__law_any_rows (defScope s__law_any_rows) := ⟨rfl, rfl, rfl, by decide +kernel, rfl, by decide +kernel, by decide +kernel⟩
theorem w__law_any_rows {P : Program} {w : World} {K : PySem.W.Frag} {T : Tab} {mg : Str → Option Value} {base : Heap} (D__law_of : Fn P w K T mg base "_law_of" 2 [] C__law_of) (D__law_pull : Fn P w K T mg base "_law_pull" 1 [] C__law_pull) (hB : Bl mg) {cdv : Value} {A : Around} {outer : List Env} {s : Shared} {H : Hp} {E : XK} {f : Addr} (hr : Room 2 (A.deeper (envOfC "_law_any_rows" (defScope s__law_any_rows) s.heap.objs.size f cdv))) :
    PSs ((cxOf CX0 P w K mg base N__law_any_rows "_law_any_rows" (defScope s__law_any_rows) f cdv A outer s H E).nox) (defBody s__law_any_rows) (UpS K T ⟨mg, E⟩ t__law_any_rows) :=
  (ds_cons (ds_asg (de_tup (da_cons (de_mul (de_lst (da_cons de_none da_nil)) (de_fn D__law_of (hr.mono (by decide)) rfl (da_cons (de_var (i := 0) rfl (.inl rfl)) (da_cons (de_lst (da_cons de_int (da_cons de_int (da_cons de_int (da_cons de_int da_nil))))) da_nil)))) (da_cons de_int (da_cons de_int (da_cons (de_neg de_int) da_nil))))) (dg_tup rfl (dgs_cons (dg_name sc__law_any_rows.nd rfl (.inl rfl)) (dgs_cons (dg_name sc__law_any_rows.nd rfl (.inl rfl)) (dgs_cons (dg_name sc__law_any_rows.nd rfl (.inl rfl)) (dgs_cons (dg_name sc__law_any_rows.nd rfl (.inl rfl)) dgs_nil)))))) (ds_cons (ds_for1 PassesOwn.never rfl rfl hB.range_ (da_cons (de_fn D__law_pull (hr.mono (by decide)) rfl (da_cons (de_var (i := 0) rfl (.inl rfl)) (da_cons (de_add (de_var (i := 1) rfl (.inl rfl)) de_int) da_nil))) da_nil) (dg_name sc__law_any_rows.nd rfl (.inl rfl)) (ds_one (ds_if (dt_cmp (op_eqD (u64 hr)) r2_eq (de_fn D__law_pull (hr.mono (by decide)) rfl (da_cons (de_var (i := 0) rfl (.inl rfl)) (da_cons de_int da_nil))) de_int (nomark _)) (ds_cons (ds_set (i := 7) sc__law_any_rows.nd rfl (.inl rfl) (de_add (de_cb cb_max3 (pe_callB (call_max3Nu rfl) rfl hB.max_ (by decide +kernel) (da_cons (de_var (i := 3) rfl (.inl rfl)) (da_cons (de_var (i := 4) rfl (.inl rfl)) (da_cons (de_add (de_var (i := 5) rfl (.inl rfl)) de_int) da_nil))))) (de_fn D__law_of (hr.mono (by decide)) rfl (da_cons (de_var (i := 0) rfl (.inl rfl)) (da_cons (de_lst (da_cons de_int (da_cons de_int (da_cons de_int (da_cons de_int da_nil))))) da_nil))))) (ds_cons (ds_set (i := 5) sc__law_any_rows.nd rfl (.inl rfl) (de_add (de_var (i := 7) rfl (.inl rfl)) (de_fn D__law_of (hr.mono (by decide)) rfl (da_cons (de_var (i := 0) rfl (.inl rfl)) (da_cons (de_lst (da_cons de_int (da_cons de_int (da_cons de_int (da_cons de_int da_nil))))) da_nil))))) (ds_cons (ds_set (i := 2) sc__law_any_rows.nd rfl (.inl rfl) (de_add (de_var (i := 2) rfl (.inl rfl)) (de_lcG (own := [("_law_row", 8)]) (fun _ _ _ => lc_up2) rfl sc__law_any_rows.nd (pi_range2 rfl hB.range_ (da_cons (de_var (i := 7) rfl (.inl rfl)) (da_cons (de_add (de_var (i := 5) rfl (.inl rfl)) de_int) da_nil))) (blkOk_by rfl) (fun _ _ _ _ _ => (dgw_name (by decide) sc__law_any_rows.nd rfl (.inl rfl))) (fun _ _ _ _ _ => dts_nil) (fun _ _ _ _ _ => (de_tup (da_cons (de_var (i := 8) rfl (.inl rfl)) (da_cons (de_var (i := 8) rfl (.inl rfl)) da_nil))))))) (ds_one (ds_par (i := 3) (j := 4) rfl sc__law_any_rows.nd rfl rfl (by decide) rfl rfl (de_var (i := 5) rfl (.inl rfl)) (de_var (i := 5) rfl (.inl rfl)) (by rfl)))))) (ds_cons (ds_set (i := 3) sc__law_any_rows.nd rfl (.inl rfl) (de_add (de_var (i := 3) rfl (.inl rfl)) (de_fn D__law_of (hr.mono (by decide)) rfl (da_cons (de_var (i := 0) rfl (.inl rfl)) (da_cons (de_lst (da_cons de_int (da_cons de_int (da_cons de_int (da_cons de_int da_nil))))) da_nil))))) (ds_cons (ds_set (i := 4) sc__law_any_rows.nd rfl (.inl rfl) (de_add (de_cb cb_max (pe_callB (call_max2 rfl) rfl hB.max_ (by decide +kernel) (da_cons (de_var (i := 4) rfl (.inl rfl)) (da_cons (de_add (de_var (i := 3) rfl (.inl rfl)) de_int) da_nil)))) (de_fn D__law_of (hr.mono (by decide)) rfl (da_cons (de_var (i := 0) rfl (.inl rfl)) (da_cons (de_lst (da_cons de_int (da_cons de_int (da_cons de_int (da_cons de_int da_nil))))) da_nil))))) (ds_one (ds_set (i := 2) sc__law_any_rows.nd rfl (.inl rfl) (de_add (de_var (i := 2) rfl (.inl rfl)) (de_mul (de_lst (da_cons (de_tup (da_cons (de_var (i := 3) rfl (.inl rfl)) (da_cons (de_var (i := 4) rfl (.inl rfl)) da_nil))) da_nil)) (de_fn D__law_of (hr.mono (by decide)) rfl (da_cons (de_var (i := 0) rfl (.inl rfl)) (da_cons (de_lst (da_cons de_int (da_cons de_int (da_cons de_int (da_cons de_int da_nil))))) da_nil)))))))))))) (ds_cons (ds_set (i := 7) sc__law_any_rows.nd rfl (.inl rfl) (de_add (de_cb cb_max3 (pe_callB (call_max3Nu rfl) rfl hB.max_ (by decide +kernel) (da_cons (de_var (i := 3) rfl (.inl rfl)) (da_cons (de_var (i := 4) rfl (.inl rfl)) (da_cons (de_add (de_var (i := 5) rfl (.inl rfl)) de_int) da_nil))))) (de_fn D__law_of (hr.mono (by decide)) rfl (da_cons (de_var (i := 0) rfl (.inl rfl)) (da_cons (de_lst (da_cons de_int (da_cons de_int (da_cons de_int (da_cons de_int da_nil))))) da_nil))))) (ds_one (ds_ret (de_add (de_var (i := 2) rfl (.inl rfl)) (de_lcG (own := [("_law_row", 8)]) (fun _ _ _ => lc_up2) rfl sc__law_any_rows.nd (pi_range2 rfl hB.range_ (da_cons (de_var (i := 7) rfl (.inl rfl)) (da_cons (de_add (de_var (i := 7) rfl (.inl rfl)) de_int) da_nil))) (blkOk_by rfl) (fun _ _ _ _ _ => (dgw_name (by decide) sc__law_any_rows.nd rfl (.inl rfl))) (fun _ _ _ _ _ => dts_nil) (fun _ _ _ _ _ => (de_tup (da_cons (de_var (i := 8) rfl (.inl rfl)) (da_cons (de_var (i := 8) rfl (.inl rfl)) da_nil)))))))))))
theorem F__law_any_rows {P : Program} {w : World} {K : PySem.W.Frag} {T : Tab} {mg : Str → Option Value} {base : Heap} {f : Addr} {fd : FuncData} (F : FunD K "_law_any_rows" "_law_any_rows" (defArgs s__law_any_rows) (defBody s__law_any_rows) (defScope s__law_any_rows) [] [] f fd) (m : mg "_law_any_rows" = some (.ref f)) (D__law_of : Fn P w K T mg base "_law_of" 2 [] C__law_of) (D__law_pull : Fn P w K T mg base "_law_pull" 1 [] C__law_pull) (hB : Bl mg) : Fn P w K T mg base "_law_any_rows" 3 [] C__law_any_rows := fn_mk F m (fn_ok F sc__law_any_rows C__law_any_rows t__law_any_rows (fun ds QD h => by first | exact C_bag_len ds QD h | exact C_of_len ds QD h | (obtain ⟨rfl, _⟩ := h; rfl) | (obtain ⟨_, rfl, _⟩ := h; rfl) | (obtain ⟨_, _, rfl, _⟩ := h; rfl) | (obtain ⟨_, _, _, rfl, _⟩ := h; rfl) | (obtain ⟨_, _, _, _, rfl, _⟩ := h; rfl) | (match ds, h with | [_], _ => rfl) | (match ds, h with | [_, _], _ => rfl)) (fun cdv A outer s H E hr => w__law_any_rows D__law_of D__law_pull hB hr) pure__law_any_rows) (fun _ _ _ _ _ _ us hl => match us, hl with | [_, _], _ => rfl)
theorem sc__law_far : FnScope N__law_far P__law_far (defScope s__law_far) := ⟨rfl, rfl, rfl, by decide +kernel, rfl, by decide +kernel, by decide +kernel⟩
theorem w__law_far {P : Program} {w : World} {K : PySem.W.Frag} {T : Tab} {mg : Str → Option Value} {base : Heap} (D__law_of : Fn P w K T mg base "_law_of" 2 [] C__law_of) (D__law_pull : Fn P w K T mg base "_law_pull" 1 [] C__law_pull) {cdv : Value} {A : Around} {outer : List Env} {s : Shared} {H : Hp} {E : XK} {f : Addr} (hr : Room 2 (A.deeper (envOfC "_law_far" (defScope s__law_far) s.heap.objs.size f cdv))) :
    PSs ((cxOf CX0 P w K mg base N__law_far "_law_far" (defScope s__law_far) f cdv A outer s H E).nox) (defBody s__law_far) (UpS K T ⟨mg, E⟩ t__law_far) :=
  (ds_one (ds_ret (de_add (de_fn D__law_of (hr.mono (by decide)) rfl (da_cons (de_var (i := 0) rfl (.inl rfl)) (da_cons (de_lst (da_cons (de_pow de_int de_int) (da_cons (de_pow de_int de_int) (da_cons (de_pow de_int de_int) da_nil)))) da_nil))) (de_fn D__law_pull (hr.mono (by decide)) rfl (da_cons (de_var (i := 0) rfl (.inl rfl)) (da_cons (de_pow de_int de_int) da_nil))))))
theorem F__law_far {P : Program} {w : World} {K : PySem.W.Frag} {T : Tab} {mg : Str → Option Value} {base : Heap} {f : Addr} {fd : FuncData} (F : FunD K "_law_far" "_law_far" (defArgs s__law_far) (defBody s__law_far) (defScope s__law_far) [] [] f fd) (m : mg "_law_far" = some (.ref f)) (D__law_of : Fn P w K T mg base "_law_of" 2 [] C__law_of) (D__law_pull : Fn P w K T mg base "_law_pull" 1 [] C__law_pull) : Fn P w K T mg base "_law_far" 3 [] C__law_far := fn_mk F m (fn_ok F sc__law_far C__law_far t__law_far (fun ds QD h => by first | exact C_bag_len ds QD h | exact C_of_len ds QD h | (obtain ⟨rfl, _⟩ := h; rfl) | (obtain ⟨_, rfl, _⟩ := h; rfl) | (obtain ⟨_, _, rfl, _⟩ := h; rfl) | (obtain ⟨_, _, _, rfl, _⟩ := h; rfl) | (obtain ⟨_, _, _, _, rfl, _⟩ := h; rfl) | (match ds, h with | [_], _ => rfl) | (match ds, h with | [_, _], _ => rfl)) (fun cdv A outer s H E hr => w__law_far D__law_of D__law_pull hr) pure__law_far) (fun _ _ _ _ _ _ us hl => match us, hl with | [_], _ => rfl)
theorem sc_size_of : FnScope N_size_of P_size_of (defScope s_size_of) := ⟨rfl, rfl, rfl, by decide +kernel, rfl, by decide +kernel, by decide +kernel⟩
theorem w_size_of {P : Program} {w : World} {K : PySem.W.Frag} {T : Tab} {mg : Str → Option Value} {base : Heap}  {cdv : Value} {A : Around} {outer : List Env} {s : Shared} {H : Hp} {E : XK} {f : Addr} (hr : Room 0 (A.deeper (envOfC "size_of" (defScope s_size_of) s.heap.objs.size f cdv))) :
    PSs ((cxOf CX0 P w K mg base N_size_of "size_of" (defScope s_size_of) f cdv A outer s H E).nox) (defBody s_size_of) (UpS K T ⟨mg, E⟩ t_size_of) :=
  (ds_one (ds_match (de_var (i := 0) rfl (.inl rfl)) (pcs_c sc_size_of.nd (pp_seq rfl (pps_cons (pp_val (u64 hr)) (pps_cons pp_cap pps_nil)) rfl) (.cons rfl (.inl rfl) (by first | exact .inl rfl | exact .inr rfl) .nil) rfl (ds_one (ds_ret (de_var (i := 1) rfl (.inl rfl)))) (pcs_c sc_size_of.nd (pp_seq rfl (pps_cons (pp_val (u64 hr)) (pps_cons pp_cap (pps_cons pp_cap pps_nil))) rfl) (.cons rfl (.inl rfl) (by first | exact .inl rfl | exact .inr rfl) (.cons rfl (.inl rfl) (by first | exact .inl rfl | exact .inr rfl) .nil)) rfl (ds_one (ds_ret (de_ifExp (dt_isN (de_var (i := 3) rfl (.inl rfl))) de_none (de_add (de_sub (de_var (i := 3) rfl (.inl rfl)) (de_var (i := 2) rfl (.inl rfl))) de_int)))) (pcs_c sc_size_of.nd (pp_seq rfl (pps_cons pp_cap (pps_cons pp_cap (pps_cons pp_cap (pps_cons pp_cap pps_nil)))) rfl) (.cons rfl (.inl rfl) (by first | exact .inl rfl | exact .inr rfl) .nil) rfl (ds_one (ds_ret (de_var (i := 1) rfl (.inl rfl)))) pcs_nil)))))
theorem F_size_of {P : Program} {w : World} {K : PySem.W.Frag} {T : Tab} {mg : Str → Option Value} {base : Heap} {f : Addr} {fd : FuncData} (F : FunD K "size_of" "size_of" (defArgs s_size_of) (defBody s_size_of) (defScope s_size_of) [] [] f fd) (m : mg "size_of" = some (.ref f))  : Fn P w K T mg base "size_of" 1 [] C_size_of := fn_mk F m (fn_ok F sc_size_of C_size_of t_size_of (fun ds QD h => by first | exact C_bag_len ds QD h | exact C_of_len ds QD h | (obtain ⟨rfl, _⟩ := h; rfl) | (obtain ⟨_, rfl, _⟩ := h; rfl) | (obtain ⟨_, _, rfl, _⟩ := h; rfl) | (obtain ⟨_, _, _, rfl, _⟩ := h; rfl) | (obtain ⟨_, _, _, _, rfl, _⟩ := h; rfl) | (match ds, h with | [_], _ => rfl) | (match ds, h with | [_, _], _ => rfl)) (fun cdv A outer s H E hr => w_size_of  hr) pure_size_of) (fun _ _ _ _ _ _ us hl => match us, hl with | [_], _ => rfl)
theorem sc_is_piece : FnScope N_is_piece P_is_piece (defScope s_is_piece) := ⟨rfl, rfl, rfl, by decide +kernel, rfl, by decide +kernel, by decide +kernel⟩
theorem w_is_piece {P : Program} {w : World} {K : PySem.W.Frag} {T : Tab} {mg : Str → Option Value} {base : Heap}  {cdv : Value} {A : Around} {outer : List Env} {s : Shared} {H : Hp} {E : XK} {f : Addr} (hr : Room 0 (A.deeper (envOfC "is_piece" (defScope s_is_piece) s.heap.objs.size f cdv))) :
    PSs ((cxOf CX0 P w K mg base N_is_piece "is_piece" (defScope s_is_piece) f cdv A outer s H E).nox) (defBody s_is_piece) (UpS K T ⟨mg, E⟩ t_is_piece) :=
  (ds_cons (ds_match (de_var (i := 0) rfl (.inl rfl)) (pcs_c sc_is_piece.nd (pp_seq rfl (pps_cons (pp_val (u64 hr)) (pps_cons pp_cap pps_nil)) rfl) (.cons rfl (.inl rfl) (by first | exact .inl rfl | exact .inr rfl) .nil) rfl (ds_one (ds_ret (de_cmp op_ge (r2_I0 fun _ _ => rfl) (de_var (i := 1) rfl (.inl rfl)) de_int (nomark _)))) (pcs_c sc_is_piece.nd (pp_seq rfl (pps_cons (pp_val (u64 hr)) (pps_cons pp_cap (pps_cons pp_cap pps_nil))) rfl) (.cons rfl (.inl rfl) (by first | exact .inl rfl | exact .inr rfl) (.cons rfl (.inl rfl) (by first | exact .inl rfl | exact .inr rfl) .nil)) rfl (ds_one (ds_ret (de_and (de_cmp op_le (r2_I0 fun _ _ => rfl) de_int (de_var (i := 2) rfl (.inl rfl)) (nomark _)) (de_one (de_or (de_isN (de_var (i := 3) rfl (.inl rfl))) (de_one (de_cmp op_le (r2_I0 fun _ _ => rfl) (de_var (i := 2) rfl (.inl rfl)) (de_var (i := 3) rfl (.inl rfl)) (nomark _)))))))) (pcs_c sc_is_piece.nd (pp_seq rfl (pps_cons (pp_val (u64 hr)) (pps_cons pp_cap (pps_cons pp_cap (pps_cons pp_cap pps_nil)))) rfl) (.cons rfl (.inl rfl) (by first | exact .inl rfl | exact .inr rfl) (.cons rfl (.inl rfl) (by first | exact .inl rfl | exact .inr rfl) (.cons rfl (.inl rfl) (by first | exact .inl rfl | exact .inr rfl) .nil))) rfl (ds_one (ds_ret (de_and (de_chain op_le op_lt de_int (de_var (i := 4) rfl (.inl rfl)) (de_var (i := 5) rfl (.inl rfl)) (pe_chain op_le op_lt de_int (de_var (i := 4) rfl (.inl rfl)) (de_var (i := 5) rfl (.inl rfl)))) (de_one (de_cmp op_ge (r2_I0 fun _ _ => rfl) (de_var (i := 1) rfl (.inl rfl)) de_int (nomark _)))))) pcs_nil)))) (ds_one (ds_ret de_bool)))
theorem F_is_piece {P : Program} {w : World} {K : PySem.W.Frag} {T : Tab} {mg : Str → Option Value} {base : Heap} {f : Addr} {fd : FuncData} (F : FunD K "is_piece" "is_piece" (defArgs s_is_piece) (defBody s_is_piece) (defScope s_is_piece) [] [] f fd) (m : mg "is_piece" = some (.ref f))  : Fn P w K T mg base "is_piece" 1 [] C_is_piece := fn_mk F m (fn_ok F sc_is_piece C_is_piece t_is_piece (fun ds QD h => by first | exact C_bag_len ds QD h | exact C_of_len ds QD h | (obtain ⟨rfl, _⟩ := h; rfl) | (obtain ⟨_, rfl, _⟩ := h; rfl) | (obtain ⟨_, _, rfl, _⟩ := h; rfl) | (obtain ⟨_, _, _, rfl, _⟩ := h; rfl) | (obtain ⟨_, _, _, _, rfl, _⟩ := h; rfl) | (match ds, h with | [_], _ => rfl) | (match ds, h with | [_, _], _ => rfl)) (fun cdv A outer s H E hr => w_is_piece  hr) pure_is_piece) (fun _ _ _ _ _ _ us hl => match us, hl with | [_], _ => rfl)
theorem sc_first_label : FnScope N_first_label P_first_label (defScope s_first_label) := ⟨rfl, rfl, rfl, by decide +kernel, rfl, by decide +kernel, by decide +kernel⟩
theorem w_first_label {P : Program} {w : World} {K : PySem.W.Frag} {T : Tab} {mg : Str → Option Value} {base : Heap}  {cdv : Value} {A : Around} {outer : List Env} {s : Shared} {H : Hp} {E : XK} {f : Addr} (hr : Room 0 (A.deeper (envOfC "first_label" (defScope s_first_label) s.heap.objs.size f cdv))) :
    PSs ((cxOf CX0 P w K mg base N_first_label "first_label" (defScope s_first_label) f cdv A outer s H E).nox) (defBody s_first_label) (UpS K T ⟨mg, E⟩ t_first_label) :=
  (ds_one (ds_match (de_var (i := 0) rfl (.inl rfl)) (pcs_c sc_first_label.nd (pp_seq rfl (pps_cons (pp_val (u64 hr)) (pps_cons pp_cap pps_nil)) rfl) .nil rfl (ds_one (ds_ret de_none)) (pcs_c sc_first_label.nd (pp_seq rfl (pps_cons (pp_val (u64 hr)) (pps_cons pp_cap (pps_cons pp_cap pps_nil))) rfl) (.cons rfl (.inl rfl) (by first | exact .inl rfl | exact .inr rfl) .nil) rfl (ds_one (ds_ret (de_tup (da_cons (de_var (i := 1) rfl (.inl rfl)) (da_cons (de_var (i := 1) rfl (.inl rfl)) da_nil))))) (pcs_c sc_first_label.nd (pp_seq rfl (pps_cons pp_cap (pps_cons pp_cap (pps_cons pp_cap (pps_cons pp_cap pps_nil)))) rfl) (.cons rfl (.inl rfl) (by first | exact .inl rfl | exact .inr rfl) (.cons rfl (.inl rfl) (by first | exact .inl rfl | exact .inr rfl) .nil)) rfl (ds_one (ds_ret (de_tup (da_cons (de_var (i := 2) rfl (.inl rfl)) (da_cons (de_var (i := 3) rfl (.inl rfl)) da_nil))))) pcs_nil)))))
theorem F_first_label {P : Program} {w : World} {K : PySem.W.Frag} {T : Tab} {mg : Str → Option Value} {base : Heap} {f : Addr} {fd : FuncData} (F : FunD K "first_label" "first_label" (defArgs s_first_label) (defBody s_first_label) (defScope s_first_label) [] [] f fd) (m : mg "first_label" = some (.ref f))  : Fn P w K T mg base "first_label" 1 [] C_first_label := fn_mk F m (fn_ok F sc_first_label C_first_label t_first_label (fun ds QD h => by first | exact C_bag_len ds QD h | exact C_of_len ds QD h | (obtain ⟨rfl, _⟩ := h; rfl) | (obtain ⟨_, rfl, _⟩ := h; rfl) | (obtain ⟨_, _, rfl, _⟩ := h; rfl) | (obtain ⟨_, _, _, rfl, _⟩ := h; rfl) | (obtain ⟨_, _, _, _, rfl, _⟩ := h; rfl) | (match ds, h with | [_], _ => rfl) | (match ds, h with | [_, _], _ => rfl)) (fun cdv A outer s H E hr => w_first_label  hr) pure_first_label) (fun _ _ _ _ _ _ us hl => match us, hl with | [_], _ => rfl)
theorem sc_last_label : FnScope N_last_label P_last_label (defScope s_last_label) := ⟨rfl, rfl, rfl, by decide +kernel, rfl, by decide +kernel, by decide +kernel⟩
theorem w_last_label {P : Program} {w : World} {K : PySem.W.Frag} {T : Tab} {mg : Str → Option Value} {base : Heap} (D_first_label : Fn P w K T mg base "first_label" 1 [] C_first_label) {cdv : Value} {A : Around} {outer : List Env} {s : Shared} {H : Hp} {E : XK} {f : Addr} (hr : Room 1 (A.deeper (envOfC "last_label" (defScope s_last_label) s.heap.objs.size f cdv))) :
    PSs ((cxOf CX0 P w K mg base N_last_label "last_label" (defScope s_last_label) f cdv A outer s H E).nox) (defBody s_last_label) (UpS K T ⟨mg, E⟩ t_last_label) :=
  (ds_one (ds_ret (de_ifExp (dt_cmp (op_eqD (u64 hr)) r2_eq (de_ixK (k := 0) rfl (de_var (i := 0) rfl (.inl rfl))) de_str (nomark _)) (de_tup (da_cons (de_ixK (k := 2) rfl (de_var (i := 0) rfl (.inl rfl))) (da_cons (de_ixK (k := 2) rfl (de_var (i := 0) rfl (.inl rfl))) da_nil))) (de_fn D_first_label (hr.mono (by decide)) rfl (da_cons (de_var (i := 0) rfl (.inl rfl)) da_nil)))))
theorem F_last_label {P : Program} {w : World} {K : PySem.W.Frag} {T : Tab} {mg : Str → Option Value} {base : Heap} {f : Addr} {fd : FuncData} (F : FunD K "last_label" "last_label" (defArgs s_last_label) (defBody s_last_label) (defScope s_last_label) [] [] f fd) (m : mg "last_label" = some (.ref f)) (D_first_label : Fn P w K T mg base "first_label" 1 [] C_first_label) : Fn P w K T mg base "last_label" 2 [] C_last_label := fn_mk F m (fn_ok F sc_last_label C_last_label t_last_label (fun ds QD h => by first | exact C_bag_len ds QD h | exact C_of_len ds QD h | (obtain ⟨rfl, _⟩ := h; rfl) | (obtain ⟨_, rfl, _⟩ := h; rfl) | (obtain ⟨_, _, rfl, _⟩ := h; rfl) | (obtain ⟨_, _, _, rfl, _⟩ := h; rfl) | (obtain ⟨_, _, _, _, rfl, _⟩ := h; rfl) | (match ds, h with | [_], _ => rfl) | (match ds, h with | [_, _], _ => rfl)) (fun cdv A outer s H E hr => w_last_label D_first_label hr) pure_last_label) (fun _ _ _ _ _ _ us hl => match us, hl with | [_], _ => rfl)
theorem sc_may_follow : FnScope N_may_follow P_may_follow (defScope s_may_follow) := ⟨rfl, rfl, rfl, by decide +kernel, rfl, by decide +kernel, by decide +kernel⟩
theorem w_may_follow {P : Program} {w : World} {K : PySem.W.Frag} {T : Tab} {mg : Str → Option Value} {base : Heap} (D_last_label : Fn P w K T mg base "last_label" 2 [] C_last_label) (D_first_label : Fn P w K T mg base "first_label" 1 [] C_first_label) {cdv : Value} {A : Around} {outer : List Env} {s : Shared} {H : Hp} {E : XK} {f : Addr} (hr : Room 2 (A.deeper (envOfC "may_follow" (defScope s_may_follow) s.heap.objs.size f cdv))) :
    PSs ((cxOf CX0 P w K mg base N_may_follow "may_follow" (defScope s_may_follow) f cdv A outer s H E).nox) (defBody s_may_follow) (UpS K T ⟨mg, E⟩ t_may_follow) :=
  (ds_cons (ds_if (dt_isN (de_var (i := 0) rfl (.inl rfl))) (ds_one (ds_ret de_bool)) ds_nil) (ds_cons (ds_if (dt_cmp (op_eqD (u64 hr)) r2_eq (de_ixK (k := 0) rfl (de_var (i := 0) rfl (.inl rfl))) de_str (nomark _)) (ds_one (ds_ret de_bool)) ds_nil) (ds_cons (ds_if (dt_cmp (op_eqD (u64 hr)) r2_eq (de_ixK (k := 0) rfl (de_var (i := 1) rfl (.inl rfl))) de_str (nomark _)) (ds_one (ds_ret de_bool)) ds_nil) (ds_cons (ds_par (i := 2) (j := 3) rfl sc_may_follow.nd rfl rfl (by decide) rfl rfl (de_fn D_last_label (hr.mono (by decide)) rfl (da_cons (de_var (i := 0) rfl (.inl rfl)) da_nil)) (de_fn D_first_label (hr.mono (by decide)) rfl (da_cons (de_var (i := 1) rfl (.inl rfl)) da_nil)) (by rfl)) (ds_cons (ds_if (PW.pt (dw_or (dt_cmp op_gt (r2_I0 fun _ _ => rfl) (de_ixK (k := 0) rfl (de_var (i := 2) rfl (.inl rfl))) (de_ixK (k := 0) rfl (de_var (i := 3) rfl (.inl rfl))) (nomark _)) (dw_or1 (dt_cmp op_gt (r2_I0 fun _ _ => rfl) (de_ixK (k := 1) rfl (de_var (i := 2) rfl (.inl rfl))) (de_ixK (k := 1) rfl (de_var (i := 3) rfl (.inl rfl))) (nomark _))))) (ds_one (ds_ret de_bool)) ds_nil) (ds_one (ds_ret (de_or (de_cmp (op_neD (u64 hr)) r2_ne (de_ixK (k := 0) rfl (de_var (i := 0) rfl (.inl rfl))) de_str (nomark _)) (de_or (de_cmp (op_neD (u64 hr)) r2_ne (de_ixK (k := 0) rfl (de_var (i := 1) rfl (.inl rfl))) de_str (nomark _)) (de_one (de_cmp (op_neD (u64 hr)) r2_ne (de_var (i := 2) rfl (.inl rfl)) (de_var (i := 3) rfl (.inl rfl)) (nomark _))))))))))))
theorem F_may_follow {P : Program} {w : World} {K : PySem.W.Frag} {T : Tab} {mg : Str → Option Value} {base : Heap} {f : Addr} {fd : FuncData} (F : FunD K "may_follow" "may_follow" (defArgs s_may_follow) (defBody s_may_follow) (defScope s_may_follow) [] [] f fd) (m : mg "may_follow" = some (.ref f)) (D_last_label : Fn P w K T mg base "last_label" 2 [] C_last_label) (D_first_label : Fn P w K T mg base "first_label" 1 [] C_first_label) : Fn P w K T mg base "may_follow" 3 [] C_may_follow := fn_mk F m (fn_ok F sc_may_follow C_may_follow t_may_follow (fun ds QD h => by first | exact C_bag_len ds QD h | exact C_of_len ds QD h | (obtain ⟨rfl, _⟩ := h; rfl) | (obtain ⟨_, rfl, _⟩ := h; rfl) | (obtain ⟨_, _, rfl, _⟩ := h; rfl) | (obtain ⟨_, _, _, rfl, _⟩ := h; rfl) | (obtain ⟨_, _, _, _, rfl, _⟩ := h; rfl) | (match ds, h with | [_], _ => rfl) | (match ds, h with | [_, _], _ => rfl)) (fun cdv A outer s H E hr => w_may_follow D_last_label D_first_label hr) pure_may_follow) (fun _ _ _ _ _ _ us hl => match us, hl with | [_, _], _ => rfl)
theorem sc_check_pieces : FnScope N_check_pieces P_check_pieces (defScope s_check_pieces) := ⟨rfl, rfl, rfl, by decide +kernel, rfl, by decide +kernel, by decide +kernel⟩
theorem w_check_pieces {P : Program} {w : World} {K : PySem.W.Frag} {T : Tab} {mg : Str → Option Value} {base : Heap} (D_is_piece : Fn P w K T mg base "is_piece" 1 [] C_is_piece) (D_size_of : Fn P w K T mg base "size_of" 1 [] C_size_of) (D_may_follow : Fn P w K T mg base "may_follow" 3 [] C_may_follow) (hB : Bl mg) {cdv : Value} {A : Around} {outer : List Env} {s : Shared} {H : Hp} {E : XK} {f : Addr} (hr : Room 3 (A.deeper (envOfC "check_pieces" (defScope s_check_pieces) s.heap.objs.size f cdv))) :
    PSs ((cxOf CX0 P w K mg base N_check_pieces "check_pieces" (defScope s_check_pieces) f cdv A outer s H E).nox) (defBody s_check_pieces) (UpS K T ⟨mg, E⟩ t_check_pieces) :=
  (ds_cons (ds_set (i := 1) sc_check_pieces.nd rfl (.inl rfl) de_none) (ds_cons (ds_forE PassesOwn.never rfl rfl hB.enumerate_ (da_cons (de_var (i := 0) rfl (.inl rfl)) da_nil) (dg_tup rfl (dgs_cons (dg_name sc_check_pieces.nd rfl (.inl rfl)) (dgs_cons (dg_name sc_check_pieces.nd rfl (.inl rfl)) dgs_nil))) (ds_cons (ds_if (PW.pt (dw_or (dt_not (dt_val (de_fn D_is_piece (hr.mono (by decide)) rfl (da_cons (de_var (i := 3) rfl (.inl rfl)) da_nil)))) (dw_or (PW.pt (dw_and (dt_notN (de_var (i := 1) rfl (.inl rfl))) (dw_and1 (dt_isN (de_fn D_size_of (hr.mono (by decide)) rfl (da_cons (de_var (i := 1) rfl (.inl rfl)) da_nil)))))) (dw_or1 (dt_not (dt_val (de_fn D_may_follow (hr.mono (by decide)) rfl (da_cons (de_var (i := 1) rfl (.inl rfl)) (da_cons (de_var (i := 3) rfl (.inl rfl)) da_nil))))))))) (ds_one ds_never) ds_nil) (ds_one (ds_set (i := 1) sc_check_pieces.nd rfl (.inl rfl) (de_var (i := 3) rfl (.inl rfl)))))) (ds_one (ds_if (PW.pt (dw_or (dt_isN (de_var (i := 1) rfl (.inl rfl))) (dw_or1 (dt_notN (de_fn D_size_of (hr.mono (by decide)) rfl (da_cons (de_var (i := 1) rfl (.inl rfl)) da_nil)))))) (ds_one ds_never) ds_nil))))
theorem F_check_pieces {P : Program} {w : World} {K : PySem.W.Frag} {T : Tab} {mg : Str → Option Value} {base : Heap} {f : Addr} {fd : FuncData} (F : FunD K "check_pieces" "check_pieces" (defArgs s_check_pieces) (defBody s_check_pieces) (defScope s_check_pieces) [] [] f fd) (m : mg "check_pieces" = some (.ref f)) (D_is_piece : Fn P w K T mg base "is_piece" 1 [] C_is_piece) (D_size_of : Fn P w K T mg base "size_of" 1 [] C_size_of) (D_may_follow : Fn P w K T mg base "may_follow" 3 [] C_may_follow) (hB : Bl mg) : Fn P w K T mg base "check_pieces" 4 [] C_check_pieces := fn_mk F m (fn_ok F sc_check_pieces C_check_pieces t_check_pieces (fun ds QD h => by first | exact C_bag_len ds QD h | exact C_of_len ds QD h | (obtain ⟨rfl, _⟩ := h; rfl) | (obtain ⟨_, rfl, _⟩ := h; rfl) | (obtain ⟨_, _, rfl, _⟩ := h; rfl) | (obtain ⟨_, _, _, rfl, _⟩ := h; rfl) | (obtain ⟨_, _, _, _, rfl, _⟩ := h; rfl) | (match ds, h with | [_], _ => rfl) | (match ds, h with | [_, _], _ => rfl)) (fun cdv A outer s H E hr => w_check_pieces D_is_piece D_size_of D_may_follow hB hr) pure_check_pieces) (fun _ _ _ _ _ _ us hl => match us, hl with | [_], _ => rfl)
theorem sc_welded : FnScope N_welded P_welded (defScope s_welded) := ⟨rfl, rfl, rfl, by decide +kernel, rfl, by decide +kernel, by decide +kernel⟩
theorem w_welded {P : Program} {w : World} {K : PySem.W.Frag} {T : Tab} {mg : Str → Option Value} {base : Heap}  {cdv : Value} {A : Around} {outer : List Env} {s : Shared} {H : Hp} {E : XK} {f : Addr} (hr : Room 0 (A.deeper (envOfC "welded" (defScope s_welded) s.heap.objs.size f cdv))) :
    PSs ((cxOf CX0 P w K mg base N_welded "welded" (defScope s_welded) f cdv A outer s H E).nox) (defBody s_welded) (UpS K T ⟨mg, E⟩ t_welded) :=
  (ds_cons (ds_if (dt_cmp (op_neD (u64 hr)) r2_ne (de_ixK (k := 0) rfl (de_var (i := 0) rfl (.inl rfl))) (de_ixK (k := 0) rfl (de_var (i := 1) rfl (.inl rfl))) (nomark _)) (ds_one (ds_ret de_none)) ds_nil) (ds_cons (ds_if (dt_cmp (op_eqD (u64 hr)) r2_eq (de_ixK (k := 0) rfl (de_var (i := 0) rfl (.inl rfl))) de_str (nomark _)) (ds_one (ds_ret (de_tup (da_cons de_str (da_cons (de_add (de_ixK (k := 1) rfl (de_var (i := 0) rfl (.inl rfl))) (de_ixK (k := 1) rfl (de_var (i := 1) rfl (.inl rfl)))) da_nil))))) ds_nil) (ds_cons (ds_if (dt_cmp (op_eqD (u64 hr)) r2_eq (de_ixK (k := 0) rfl (de_var (i := 0) rfl (.inl rfl))) de_str (nomark _)) (ds_one (ds_ret (de_ifExp (dt_cmp (op_eqD (u64 hr)) r2_eq (de_add (de_ixK (k := 2) rfl (de_var (i := 0) rfl (.inl rfl))) de_int) (de_ixK (k := 1) rfl (de_var (i := 1) rfl (.inl rfl))) (nomark _)) (de_tup (da_cons de_str (da_cons (de_ixK (k := 1) rfl (de_var (i := 0) rfl (.inl rfl))) (da_cons (de_ixK (k := 2) rfl (de_var (i := 1) rfl (.inl rfl))) da_nil)))) de_none))) ds_nil) (ds_one (ds_ret (de_ifExp (dt_cmp (op_eqD (u64 hr)) r2_eq (de_sl (de_var (i := 0) rfl (.inl rfl)) do_none (do_some de_int)) (de_sl (de_var (i := 1) rfl (.inl rfl)) do_none (do_some de_int)) (nomark _)) (de_tup (da_star (de_sl (de_var (i := 0) rfl (.inl rfl)) do_none (do_some de_int)) (da_cons (de_add (de_ixK (k := 3) rfl (de_var (i := 0) rfl (.inl rfl))) (de_ixK (k := 3) rfl (de_var (i := 1) rfl (.inl rfl)))) da_nil))) de_none))))))
theorem F_welded {P : Program} {w : World} {K : PySem.W.Frag} {T : Tab} {mg : Str → Option Value} {base : Heap} {f : Addr} {fd : FuncData} (F : FunD K "welded" "welded" (defArgs s_welded) (defBody s_welded) (defScope s_welded) [] [] f fd) (m : mg "welded" = some (.ref f))  : Fn P w K T mg base "welded" 1 [] C_welded := fn_mk F m (fn_ok F sc_welded C_welded t_welded (fun ds QD h => by first | exact C_bag_len ds QD h | exact C_of_len ds QD h | (obtain ⟨rfl, _⟩ := h; rfl) | (obtain ⟨_, rfl, _⟩ := h; rfl) | (obtain ⟨_, _, rfl, _⟩ := h; rfl) | (obtain ⟨_, _, _, rfl, _⟩ := h; rfl) | (obtain ⟨_, _, _, _, rfl, _⟩ := h; rfl) | (match ds, h with | [_], _ => rfl) | (match ds, h with | [_, _], _ => rfl)) (fun cdv A outer s H E hr => w_welded  hr) pure_welded) (fun _ _ _ _ _ _ us hl => match us, hl with | [_, _], _ => rfl)
theorem sc_normal : FnScope N_normal P_normal (defScope s_normal) := ⟨rfl, rfl, rfl, by decide +kernel, rfl, by decide +kernel, by decide +kernel⟩
theorem w_normal {P : Program} {w : World} {K : PySem.W.Frag} {T : Tab} {mg : Str → Option Value} {base : Heap} (D_welded : Fn P w K T mg base "welded" 1 [] C_welded) {cdv : Value} {A : Around} {outer : List Env} {s : Shared} {H : Hp} {E : XK} {f : Addr} (hr : Room 1 (A.deeper (envOfC "normal" (defScope s_normal) s.heap.objs.size f cdv))) :
    PSs ((cxOf CX0 P w K mg base N_normal "normal" (defScope s_normal) f cdv A outer s H E).nox) (defBody s_normal) (UpS K T ⟨mg, E⟩ t_normal) :=
  (ds_cons (ds_setO (i := 1) sc_normal.nd rfl (.inl rfl) (de_lst da_nil)) (ds_cons (ds_for PassesOwn.never rfl (de_var (i := 0) rfl (.inl rfl)) (dg_name sc_normal.nd rfl (.inl rfl)) (ds_cons (ds_set (i := 3) sc_normal.nd rfl (.inl rfl) (de_ifExp (dt_cmp (op_neD (u64 hr)) r2_ne (de_var (i := 1) rfl (.inl rfl)) (de_lst da_nil) (nomark _)) (de_fn D_welded (hr.mono (by decide)) rfl (da_cons (de_ixL (de_var (i := 1) rfl (.inl rfl))) (da_cons (de_var (i := 2) rfl (.inl rfl)) da_nil))) de_none)) (ds_one (ds_if (dt_isN (de_var (i := 3) rfl (.inl rfl))) (ds_one (ds_app (ps_expr (pe_bm PySem.F.plainAttrs_list PySem.F.slot_list_append PySem.F.type_list_append mt_append (pe_var (i := 1) rfl (.inl rfl)) (pa_cons (de_var (i := 2) rfl (.inl rfl)) pa_nil))))) (ds_one (ds_asg (de_var (i := 3) rfl (.inl rfl)) (dg_sub (i := 1) rfl (.inl rfl) (de_neg de_int)))))))) (ds_one (ds_retOwn (i := 1) rfl (.inl rfl)))))
theorem F_normal {P : Program} {w : World} {K : PySem.W.Frag} {T : Tab} {mg : Str → Option Value} {base : Heap} {f : Addr} {fd : FuncData} (F : FunD K "normal" "normal" (defArgs s_normal) (defBody s_normal) (defScope s_normal) [] [] f fd) (m : mg "normal" = some (.ref f)) (D_welded : Fn P w K T mg base "welded" 1 [] C_welded) : Fn P w K T mg base "normal" 2 [] C_normal := fn_mk F m (fn_ok F sc_normal C_normal t_normal (fun ds QD h => by first | exact C_bag_len ds QD h | exact C_of_len ds QD h | (obtain ⟨rfl, _⟩ := h; rfl) | (obtain ⟨_, rfl, _⟩ := h; rfl) | (obtain ⟨_, _, rfl, _⟩ := h; rfl) | (obtain ⟨_, _, _, rfl, _⟩ := h; rfl) | (obtain ⟨_, _, _, _, rfl, _⟩ := h; rfl) | (match ds, h with | [_], _ => rfl) | (match ds, h with | [_, _], _ => rfl)) (fun cdv A outer s H E hr => w_normal D_welded hr) pure_normal) (fun _ _ _ _ _ _ us hl => match us, hl with | [_], _ => rfl)
theorem sc_Layout___init__ : FnScope N_Layout___init__ P_Layout___init__ (defScope s_Layout___init__) := ⟨rfl, rfl, rfl, by decide +kernel, rfl, by decide +kernel, by decide +kernel⟩
theorem w_Layout___init__ {P : Program} {w : World} {K : PySem.W.Frag} {T : Tab} {mg : Str → Option Value} {base : Heap} (D_check_pieces : Fn P w K T mg base "check_pieces" 4 [] C_check_pieces) (D_normal : Fn P w K T mg base "normal" 2 [] C_normal) (hC0 : ClD K T 0 FS0) (hB : Bl mg) (K_Layout_LIMIT : CCst K T mg "Layout" 0 "LIMIT" (.int 60)) {cdv : Value} {A : Around} {outer : List Env} {s : Shared} {H : Hp} {E : XK} {f : Addr} (hr : Room 4 (A.deeper (envOfC "Layout.__init__" (defScope s_Layout___init__) s.heap.objs.size f cdv))) :
    PSs ((cxOf CX0 P w K mg base N_Layout___init__ "Layout.__init__" (defScope s_Layout___init__) f cdv A outer s H E).nox) (defBody s_Layout___init__) (UpS K T ⟨mg, E⟩ t_Layout___init__) :=
  (ds_cons (ds_expr (de_fn D_check_pieces (hr.mono (by decide)) rfl (da_cons (de_var (i := 1) rfl (.inl rfl)) da_nil))) (ds_cons (ds_putF (c := 0) (j := 0) rfl (.inl rfl) hC0.cl (hC0.na (j := 0) rfl) hC0.nd (hC0.at_ rfl) hC0.h9 (de_fn D_normal (hr.mono (by decide)) rfl (da_cons (de_var (i := 1) rfl (.inl rfl)) da_nil))) (ds_one (ds_if (dt_cmp op_gt (r2_I0 fun _ _ => rfl) (de_cb cb_len (pe_callB call_len_seq rfl hB.len_ (by decide +kernel) (da_cons (de_fldI (c := 0) (j := 0) rfl (.inl rfl) hC0.cl (hC0.na (j := 0) rfl) hC0.nd (hC0.at_ rfl)) da_nil))) (de_ccst K_Layout_LIMIT rfl) (nomark _)) (ds_one ds_never) ds_nil))))
theorem F_Layout___init__ {P : Program} {w : World} {K : PySem.W.Frag} {T : Tab} {mg : Str → Option Value} {base : Heap} {f : Addr} {fd : FuncData} (F : FunD K "__init__" "Layout.__init__" (defArgs s_Layout___init__) (defBody s_Layout___init__) (defScope s_Layout___init__) [] [] f fd) (m : mg "Layout" = some (.ref (T 0).1)) (mk : Mk K (T 0).1 f) (D_check_pieces : Fn P w K T mg base "check_pieces" 4 [] C_check_pieces) (D_normal : Fn P w K T mg base "normal" 2 [] C_normal) (hC0 : ClD K T 0 FS0) (hB : Bl mg) (K_Layout_LIMIT : CCst K T mg "Layout" 0 "LIMIT" (.int 60)) : Mkr P w K T mg base "Layout" 0 5 [] C_Layout___init__ := mkr_mk F m mk (init_ok F sc_Layout___init__ 0 C_Layout___init__ t_Layout___init__ (fun ds QD h => by first | exact C_bag_len ds QD h | exact C_of_len ds QD h | (obtain ⟨rfl, _⟩ := h; rfl) | (obtain ⟨_, rfl, _⟩ := h; rfl) | (obtain ⟨_, _, rfl, _⟩ := h; rfl) | (obtain ⟨_, _, _, rfl, _⟩ := h; rfl) | (obtain ⟨_, _, _, _, rfl, _⟩ := h; rfl) | (match ds, h with | [_], _ => rfl) | (match ds, h with | [_, _], _ => rfl)) (fun cdv A outer s H E hr => w_Layout___init__ D_check_pieces D_normal hC0 hB K_Layout_LIMIT hr) (by rw [hC0.fs_]; exact pure_Layout___init__)) (fun _ _ _ _ _ _ us hl => match us, hl with | [_, _], _ => rfl)
theorem sc__law_rolled : FnScope N__law_rolled P__law_rolled (defScope s__law_rolled) := ⟨rfl, rfl, rfl, by decide +kernel, rfl, by decide +kernel, by decide +kernel⟩
theorem w__law_rolled {P : Program} {w : World} {K : PySem.W.Frag} {T : Tab} {mg : Str → Option Value} {base : Heap}  {cdv : Value} {A : Around} {outer : List Env} {s : Shared} {H : Hp} {E : XK} {f : Addr} (hr : Room 0 (A.deeper (envOfC "_law_rolled" (defScope s__law_rolled) s.heap.objs.size f cdv))) :
    PSs ((cxOf CX0 P w K mg base N__law_rolled "_law_rolled" (defScope s__law_rolled) f cdv A outer s H E).nox) (defBody s__law_rolled) (UpS K T ⟨mg, E⟩ t__law_rolled) :=
  (ds_cons (ds_set (i := 1) sc__law_rolled.nd rfl (.inl rfl) (de_lst da_nil)) (ds_cons (ds_for PassesOwn.never rfl (de_var (i := 0) rfl (.inl rfl)) (dg_name sc__law_rolled.nd rfl (.inl rfl)) (ds_cons (ds_set (i := 3) sc__law_rolled.nd rfl (.inl rfl) (de_ifExp (dt_cmp (op_neD (u64 hr)) r2_ne (de_var (i := 1) rfl (.inl rfl)) (de_lst da_nil) (nomark _)) (de_ixL (de_var (i := 1) rfl (.inl rfl))) (de_tup (da_cons de_str (da_cons de_int (da_cons de_int (da_cons de_int da_nil))))))) (ds_cons (ds_if (dt_isN (de_var (i := 2) rfl (.inl rfl))) (ds_cons (ds_par (i := 4) (j := 5) rfl sc__law_rolled.nd rfl rfl (by decide) rfl rfl (de_tup (da_cons de_str (da_cons de_int da_nil))) (de_tup (da_cons de_str (da_cons (de_add (de_ixK (k := 1) rfl (de_var (i := 3) rfl (.inl rfl))) de_int) da_nil))) (by rfl)) (ds_one (ds_set (i := 6) sc__law_rolled.nd rfl (.inl rfl) (de_cmp (op_eqD (u64 hr)) r2_eq (de_ixK (k := 0) rfl (de_var (i := 3) rfl (.inl rfl))) de_str (nomark _))))) (ds_one (ds_if (dt_cmp (op_eqD (u64 hr)) r2_eq (de_ixK (k := 0) rfl (de_var (i := 2) rfl (.inl rfl))) (de_ixK (k := 1) rfl (de_var (i := 2) rfl (.inl rfl))) (nomark _)) (ds_cons (ds_par (i := 4) (j := 5) rfl sc__law_rolled.nd rfl rfl (by decide) rfl rfl (de_tup (da_cons de_str (da_cons (de_ixK (k := 0) rfl (de_var (i := 2) rfl (.inl rfl))) (da_cons (de_ixK (k := 0) rfl (de_var (i := 2) rfl (.inl rfl))) da_nil)))) (de_tup (da_cons de_str (da_cons (de_ixK (k := 1) rfl (de_var (i := 3) rfl (.inl rfl))) (da_cons (de_ixK (k := 0) rfl (de_var (i := 2) rfl (.inl rfl))) da_nil)))) (by rfl)) (ds_one (ds_set (i := 6) sc__law_rolled.nd rfl (.inl rfl) (de_and (de_cmp (op_eqD (u64 hr)) r2_eq (de_ixK (k := 0) rfl (de_var (i := 3) rfl (.inl rfl))) de_str (nomark _)) (de_one (de_cmp (op_eqD (u64 hr)) r2_eq (de_add (de_ixK (k := 2) rfl (de_var (i := 3) rfl (.inl rfl))) de_int) (de_ixK (k := 0) rfl (de_var (i := 2) rfl (.inl rfl))) (nomark _))))))) (ds_cons (ds_par (i := 4) (j := 5) rfl sc__law_rolled.nd rfl rfl (by decide) rfl rfl (de_tup (da_cons de_str (da_cons (de_ixK (k := 0) rfl (de_var (i := 2) rfl (.inl rfl))) (da_cons (de_ixK (k := 1) rfl (de_var (i := 2) rfl (.inl rfl))) (da_cons de_int da_nil))))) (de_tup (da_cons de_str (da_cons (de_ixK (k := 0) rfl (de_var (i := 2) rfl (.inl rfl))) (da_cons (de_ixK (k := 1) rfl (de_var (i := 2) rfl (.inl rfl))) (da_cons (de_add (de_ixL (de_var (i := 3) rfl (.inl rfl))) de_int) da_nil))))) (by rfl)) (ds_one (ds_set (i := 6) sc__law_rolled.nd rfl (.inl rfl) (de_cmp (op_eqD (u64 hr)) r2_eq (de_sl (de_var (i := 3) rfl (.inl rfl)) do_none (do_some de_int)) (de_sl (de_var (i := 4) rfl (.inl rfl)) do_none (do_some de_int)) (nomark _)))))))) (ds_one (ds_set (i := 1) sc__law_rolled.nd rfl (.inl rfl) (de_ifExp (dt_val (de_var (i := 6) rfl (.inl rfl))) (de_add (de_sl (de_var (i := 1) rfl (.inl rfl)) do_none (do_some (de_neg de_int))) (de_lst (da_cons (de_var (i := 5) rfl (.inl rfl)) da_nil))) (de_add (de_var (i := 1) rfl (.inl rfl)) (de_lst (da_cons (de_var (i := 4) rfl (.inl rfl)) da_nil))))))))) (ds_one (ds_ret (de_add (de_sl (de_var (i := 1) rfl (.inl rfl)) do_none (do_some (de_neg de_int))) (de_lst (da_cons (de_tup (da_cons de_str (da_cons (de_ixK (k := 1) rfl (de_ixL (de_var (i := 1) rfl (.inl rfl)))) (da_cons de_none da_nil)))) da_nil)))))))
theorem F__law_rolled {P : Program} {w : World} {K : PySem.W.Frag} {T : Tab} {mg : Str → Option Value} {base : Heap} {f : Addr} {fd : FuncData} (F : FunD K "_law_rolled" "_law_rolled" (defArgs s__law_rolled) (defBody s__law_rolled) (defScope s__law_rolled) [] [] f fd) (m : mg "_law_rolled" = some (.ref f))  : Fn P w K T mg base "_law_rolled" 1 [] C__law_rolled := fn_mk F m (fn_ok F sc__law_rolled C__law_rolled t__law_rolled (fun ds QD h => by first | exact C_bag_len ds QD h | exact C_of_len ds QD h | (obtain ⟨rfl, _⟩ := h; rfl) | (obtain ⟨_, rfl, _⟩ := h; rfl) | (obtain ⟨_, _, rfl, _⟩ := h; rfl) | (obtain ⟨_, _, _, rfl, _⟩ := h; rfl) | (obtain ⟨_, _, _, _, rfl, _⟩ := h; rfl) | (match ds, h with | [_], _ => rfl) | (match ds, h with | [_, _], _ => rfl)) (fun cdv A outer s H E hr => w__law_rolled  hr) pure__law_rolled) (fun _ _ _ _ _ _ us hl => match us, hl with | [_], _ => rfl)
theorem sc__law_made_of : FnScope N__law_made_of P__law_made_of (defScope s__law_made_of) := ⟨rfl, rfl, rfl, by decide +kernel, rfl, by decide +kernel, by decide +kernel⟩
theorem w__law_made_of {P : Program} {w : World} {K : PySem.W.Frag} {T : Tab} {mg : Str → Option Value} {base : Heap} (D__law_rolled : Fn P w K T mg base "_law_rolled" 1 [] C__law_rolled) (M_Layout : Mkr P w K T mg base "Layout" 0 5 [] C_Layout___init__) {cdv : Value} {A : Around} {outer : List Env} {s : Shared} {H : Hp} {E : XK} {f : Addr} (hr : Room 6 (A.deeper (envOfC "_law_made_of" (defScope s__law_made_of) s.heap.objs.size f cdv))) :
    PSs ((cxOf CX0 P w K mg base N__law_made_of "_law_made_of" (defScope s__law_made_of) f cdv A outer s H E).nox) (defBody s__law_made_of) (UpS K T ⟨mg, E⟩ t__law_made_of) :=
  (ds_one (ds_ret (de_mk M_Layout (hr.mono (by decide)) rfl (da_cons (de_fn D__law_rolled (hr.mono (by decide)) rfl (da_cons (de_var (i := 0) rfl (.inl rfl)) da_nil)) da_nil))))
theorem F__law_made_of {P : Program} {w : World} {K : PySem.W.Frag} {T : Tab} {mg : Str → Option Value} {base : Heap} {f : Addr} {fd : FuncData} (F : FunD K "_law_made_of" "_law_made_of" (defArgs s__law_made_of) (defBody s__law_made_of) (defScope s__law_made_of) [] [] f fd) (m : mg "_law_made_of" = some (.ref f)) (D__law_rolled : Fn P w K T mg base "_law_rolled" 1 [] C__law_rolled) (M_Layout : Mkr P w K T mg base "Layout" 0 5 [] C_Layout___init__) : Fn P w K T mg base "_law_made_of" 7 [] C__law_made_of := fn_mk F m (fn_ok F sc__law_made_of C__law_made_of t__law_made_of (fun ds QD h => by first | exact C_bag_len ds QD h | exact C_of_len ds QD h | (obtain ⟨rfl, _⟩ := h; rfl) | (obtain ⟨_, rfl, _⟩ := h; rfl) | (obtain ⟨_, _, rfl, _⟩ := h; rfl) | (obtain ⟨_, _, _, rfl, _⟩ := h; rfl) | (obtain ⟨_, _, _, _, rfl, _⟩ := h; rfl) | (match ds, h with | [_], _ => rfl) | (match ds, h with | [_, _], _ => rfl)) (fun cdv A outer s H E hr => w__law_made_of D__law_rolled M_Layout hr) pure__law_made_of) (fun _ _ _ _ _ _ us hl => match us, hl with | [_], _ => rfl)
theorem sc__law_like : FnScope N__law_like P__law_like (defScope s__law_like) := ⟨rfl, rfl, rfl, by decide +kernel, rfl, by decide +kernel, by decide +kernel⟩
theorem w__law_like {P : Program} {w : World} {K : PySem.W.Frag} {T : Tab} {mg : Str → Option Value} {base : Heap} {k : Nat} {CR : Ctr} (hB : Bl mg) (D__law_like : Fn P w K T mg base "_law_like" k [] CR) {cdv : Value} {A : Around} {outer : List Env} {s : Shared} {H : Hp} {E : XK} {f : Addr} (hr : Room k (A.deeper (envOfC "_law_like" (defScope s__law_like) s.heap.objs.size f cdv))) :
    PSs (cxOf CX0 P w K mg base N__law_like "_law_like" (defScope s__law_like) f cdv A outer s H E).nox (defBody s__law_like) (UpS K T ⟨mg, E⟩ (t__law_like CR)) :=
  (ds_cons (ds_if (dt_val (de_isI2 .tup .lst rfl hB.isinstance_ rfl hB.tuple_ (by decide +kernel) rfl hB.list_ (by decide +kernel) (de_var (i := 1) rfl (.inr (.inl rfl))) (by decide) (by decide) (by decide) (by decide) rfl rfl (pa_cons (de_var (i := 1) rfl (.inr (.inl rfl))) (pa_cons (pe_tup (pa_cons (pe_bltn rfl hB.tuple_ (by decide +kernel) rfl) (pa_cons (pe_bltn rfl hB.list_ (by decide +kernel) rfl) pa_nil))) pa_nil)))) (ds_cons (ds_if (PW.pt (dw_or (dt_cmp (op_neD (u64 hr)) r2_ne (de_isI .tup rfl hB.isinstance_ rfl hB.tuple_ (by decide +kernel) (de_var (i := 0) rfl (.inr (.inl rfl))) (by decide) (by decide) rfl rfl (pa_cons (de_var (i := 0) rfl (.inr (.inl rfl))) (pa_cons (pe_bltn rfl hB.tuple_ (by decide +kernel) rfl) pa_nil))) (de_isI .tup rfl hB.isinstance_ rfl hB.tuple_ (by decide +kernel) (de_var (i := 1) rfl (.inr (.inl rfl))) (by decide) (by decide) rfl rfl (pa_cons (de_var (i := 1) rfl (.inr (.inl rfl))) (pa_cons (pe_bltn rfl hB.tuple_ (by decide +kernel) rfl) pa_nil))) (nomark _)) (dw_or1 (dt_cmp (op_neD (u64 hr)) r2_ne (de_isI .lst rfl hB.isinstance_ rfl hB.list_ (by decide +kernel) (de_var (i := 0) rfl (.inr (.inl rfl))) (by decide) (by decide) rfl rfl (pa_cons (de_var (i := 0) rfl (.inr (.inl rfl))) (pa_cons (pe_bltn rfl hB.list_ (by decide +kernel) rfl) pa_nil))) (de_isI .lst rfl hB.isinstance_ rfl hB.list_ (by decide +kernel) (de_var (i := 1) rfl (.inr (.inl rfl))) (by decide) (by decide) rfl rfl (pa_cons (de_var (i := 1) rfl (.inr (.inl rfl))) (pa_cons (pe_bltn rfl hB.list_ (by decide +kernel) rfl) pa_nil))) (nomark _))))) (ds_one (ds_ret de_bool)) ds_nil) (ds_one (ds_ret (de_and (de_cmp (op_eqD (u64 hr)) r2_eq (de_cb cb_len (pe_callB call_len_seq rfl hB.len_ (by decide +kernel) (da_cons (de_var (i := 0) rfl (.inr (.inl rfl))) da_nil))) (de_cb cb_len (pe_callB call_len_seq rfl hB.len_ (by decide +kernel) (da_cons (de_var (i := 1) rfl (.inr (.inl rfl))) da_nil))) (nomark _)) (de_one (de_cb cb_all (pe_callB (cr_all rfl) rfl hB.all_ (by decide +kernel) (da_cons (de_lcG (own := [("_law_k", 2)]) (fun _ _ _ => lc_up1) rfl sc__law_like.nd (pi_range1 rfl hB.range_ (da_cons (de_cb cb_len (pe_callB call_len_seq rfl hB.len_ (by decide +kernel) (da_cons (de_var (i := 1) rfl (.inr (.inl rfl))) da_nil))) da_nil)) (blkOk_by rfl) (fun _ _ _ _ _ => (dgw_name (by decide) sc__law_like.nd rfl (.inl rfl))) (fun _ _ _ _ _ => dts_nil) (fun _ _ _ _ _ => (de_fn D__law_like hr rfl (da_cons (de_ixE (de_var (i := 0) rfl (.inr (.inl rfl))) (de_var (i := 2) rfl (.inl rfl)) (fun _ _ => rfl)) (da_cons (de_ixE (de_var (i := 1) rfl (.inr (.inl rfl))) (de_var (i := 2) rfl (.inl rfl)) (fun _ _ => rfl)) da_nil))))) da_nil)))))))) ds_nil) (ds_cons (ds_if (PW.pt (dw_or (dt_isN (de_var (i := 1) rfl (.inr (.inl rfl)))) (dw_or1 (dt_isN (de_var (i := 0) rfl (.inr (.inl rfl))))))) (ds_one (ds_ret (de_and (de_isN (de_var (i := 1) rfl (.inr (.inl rfl)))) (de_one (de_isN (de_var (i := 0) rfl (.inr (.inl rfl)))))))) ds_nil) (ds_one (ds_ret (de_and (de_cmp (op_eqD (u64 hr)) r2_eq (de_isI .bool rfl hB.isinstance_ rfl hB.bool_ (by decide +kernel) (de_var (i := 0) rfl (.inr (.inl rfl))) (by decide) (by decide) rfl rfl (pa_cons (de_var (i := 0) rfl (.inr (.inl rfl))) (pa_cons (pe_bltn rfl hB.bool_ (by decide +kernel) rfl) pa_nil))) (de_isI .bool rfl hB.isinstance_ rfl hB.bool_ (by decide +kernel) (de_var (i := 1) rfl (.inr (.inl rfl))) (by decide) (by decide) rfl rfl (pa_cons (de_var (i := 1) rfl (.inr (.inl rfl))) (pa_cons (pe_bltn rfl hB.bool_ (by decide +kernel) rfl) pa_nil))) (nomark _)) (de_one (de_cmp (op_eqD (u64 hr)) r2_eq (de_var (i := 0) rfl (.inr (.inl rfl))) (de_var (i := 1) rfl (.inr (.inl rfl))) (nomark _))))))))
theorem F__law_like {P : Program} {w : World} {K : PySem.W.Frag} {T : Tab} {mg : Str → Option Value} {base : Heap} {f : Addr} {fd : FuncData} (F : FunD K "_law_like" "_law_like" (defArgs s__law_like) (defBody s__law_like) (defScope s__law_like) [] [] f fd) (m : mg "_law_like" = some (.ref f)) (hB : Bl mg) : ∀ n : Nat, Fn P w K T mg base "_law_like" (n + 2) [] (C_like n)
  | 0 => fn_mk F m (fn_ok F sc__law_like (C_like 0) (t__law_like fun _ _ => False) (fun ds QD h => by first | exact C_bag_len ds QD h | exact C_of_len ds QD h | (obtain ⟨rfl, _⟩ := h; rfl) | (obtain ⟨_, rfl, _⟩ := h; rfl) | (obtain ⟨_, _, rfl, _⟩ := h; rfl) | (obtain ⟨_, _, _, rfl, _⟩ := h; rfl) | (obtain ⟨_, _, _, _, rfl, _⟩ := h; rfl) | (match ds, h with | [_], _ => rfl) | (match ds, h with | [_, _], _ => rfl)) (fun cdv A outer s H E hr => w__law_like hB (fn_mk F m (fn_false F sc__law_like) (fun _ _ _ _ _ _ us hl => match us, hl with | [_, _], _ => rfl)) hr) like_zero) (fun _ _ _ _ _ _ us hl => match us, hl with | [_, _], _ => rfl)
  | n + 1 => fn_mk F m (fn_ok F sc__law_like (C_like (n + 1)) (t__law_like (C_like n)) (fun ds QD h => by first | exact C_bag_len ds QD h | exact C_of_len ds QD h | (obtain ⟨rfl, _⟩ := h; rfl) | (obtain ⟨_, rfl, _⟩ := h; rfl) | (obtain ⟨_, _, rfl, _⟩ := h; rfl) | (obtain ⟨_, _, _, rfl, _⟩ := h; rfl) | (obtain ⟨_, _, _, _, rfl, _⟩ := h; rfl) | (match ds, h with | [_], _ => rfl) | (match ds, h with | [_, _], _ => rfl)) (fun cdv A outer s H E hr => w__law_like hB (F__law_like F m hB n) hr) (like_step n)) (fun _ _ _ _ _ _ us hl => match us, hl with | [_, _], _ => rfl)
theorem sc_Layout_pieces : FnScope N_Layout_pieces P_Layout_pieces (defScope s_Layout_pieces) := ⟨rfl, rfl, rfl, by decide +kernel, rfl, by decide +kernel, by decide +kernel⟩
theorem w_Layout_pieces {P : Program} {w : World} {K : PySem.W.Frag} {T : Tab} {mg : Str → Option Value} {base : Heap} (hC0 : ClD K T 0 FS0) (hB : Bl mg) {cdv : Value} {A : Around} {outer : List Env} {s : Shared} {H : Hp} {E : XK} {f : Addr} (hr : Room 0 (A.deeper (envOfC "Layout.pieces" (defScope s_Layout_pieces) s.heap.objs.size f cdv))) :
    PSs ((cxOf CX0 P w K mg base N_Layout_pieces "Layout.pieces" (defScope s_Layout_pieces) f cdv A outer s H E).nox) (defBody s_Layout_pieces) (UpS K T ⟨mg, E⟩ t_Layout_pieces) :=
  (ds_one (ds_ret (de_cb cb_list (pe_callTy call_list_of rfl hB.list_ (by decide +kernel) (da_cons (de_fld (c := 0) (j := 0) (de_var (i := 0) rfl (.inl rfl)) hC0.cl (hC0.na (j := 0) rfl) hC0.nd (hC0.at_ rfl)) da_nil)))))
theorem F_Layout_pieces {P : Program} {w : World} {K : PySem.W.Frag} {T : Tab} {mg : Str → Option Value} {base : Heap} {f : Addr} {fd : FuncData} (F : FunD K "pieces" "Layout.pieces" (defArgs s_Layout_pieces) (defBody s_Layout_pieces) (defScope s_Layout_pieces) [] [] f fd) (hm0 : Meth K (T 0).1 "pieces" f) (hn0 : ("pieces" : Str) ∉ (T 0).2) (cl : Cls K (T 0).1) (hC0 : ClD K T 0 FS0) (hB : Bl mg) : Mt P w K T mg base 0 "pieces" 1 [] C_Layout_pieces := mt_mk F cl hm0 hn0 (fn_ok F sc_Layout_pieces C_Layout_pieces t_Layout_pieces (fun ds QD h => by first | exact C_bag_len ds QD h | exact C_of_len ds QD h | (obtain ⟨rfl, _⟩ := h; rfl) | (obtain ⟨_, rfl, _⟩ := h; rfl) | (obtain ⟨_, _, rfl, _⟩ := h; rfl) | (obtain ⟨_, _, _, rfl, _⟩ := h; rfl) | (obtain ⟨_, _, _, _, rfl, _⟩ := h; rfl) | (match ds, h with | [_], _ => rfl) | (match ds, h with | [_, _], _ => rfl)) (fun cdv A outer s H E hr => w_Layout_pieces hC0 hB hr) pure_Layout_pieces) (fun _ _ _ _ _ _ us hl => match us, hl with | [_], _ => rfl)
theorem sc__law_is_layout : FnScope N__law_is_layout P__law_is_layout (defScope s__law_is_layout) := ⟨rfl, rfl, rfl, by decide +kernel, rfl, by decide +kernel, by decide +kernel⟩
theorem w__law_is_layout {P : Program} {w : World} {K : PySem.W.Frag} {T : Tab} {mg : Str → Option Value} {base : Heap} (D__law_like : Fn P w K T mg base "_law_like" 12 [] C__law_like) (D__law_rolled : Fn P w K T mg base "_law_rolled" 1 [] C__law_rolled) (D_Layout_pieces : Mt P w K T mg base 0 "pieces" 1 [] C_Layout_pieces) {cdv : Value} {A : Around} {outer : List Env} {s : Shared} {H : Hp} {E : XK} {f : Addr} (hr : Room 12 (A.deeper (envOfC "_law_is_layout" (defScope s__law_is_layout) s.heap.objs.size f cdv))) :
    PSs ((cxOf CX0 P w K mg base N__law_is_layout "_law_is_layout" (defScope s__law_is_layout) f cdv A outer s H E).nox) (defBody s__law_is_layout) (UpS K T ⟨mg, E⟩ t__law_is_layout) :=
  (ds_one (ds_ret (de_fn D__law_like (hr.mono (by decide)) rfl (da_cons (de_mt0 D_Layout_pieces (hr.mono (by decide)) (de_var (i := 0) rfl (.inl rfl))) (da_cons (de_fn D__law_rolled (hr.mono (by decide)) rfl (da_cons (de_var (i := 1) rfl (.inl rfl)) da_nil)) da_nil)))))
theorem F__law_is_layout {P : Program} {w : World} {K : PySem.W.Frag} {T : Tab} {mg : Str → Option Value} {base : Heap} {f : Addr} {fd : FuncData} (F : FunD K "_law_is_layout" "_law_is_layout" (defArgs s__law_is_layout) (defBody s__law_is_layout) (defScope s__law_is_layout) [] [] f fd) (m : mg "_law_is_layout" = some (.ref f)) (D__law_like : Fn P w K T mg base "_law_like" 12 [] C__law_like) (D__law_rolled : Fn P w K T mg base "_law_rolled" 1 [] C__law_rolled) (D_Layout_pieces : Mt P w K T mg base 0 "pieces" 1 [] C_Layout_pieces) : Fn P w K T mg base "_law_is_layout" 13 [] C__law_is_layout := fn_mk F m (fn_ok F sc__law_is_layout C__law_is_layout t__law_is_layout (fun ds QD h => by first | exact C_bag_len ds QD h | exact C_of_len ds QD h | (obtain ⟨rfl, _⟩ := h; rfl) | (obtain ⟨_, rfl, _⟩ := h; rfl) | (obtain ⟨_, _, rfl, _⟩ := h; rfl) | (obtain ⟨_, _, _, rfl, _⟩ := h; rfl) | (obtain ⟨_, _, _, _, rfl, _⟩ := h; rfl) | (match ds, h with | [_], _ => rfl) | (match ds, h with | [_, _], _ => rfl)) (fun cdv A outer s H E hr => w__law_is_layout D__law_like D__law_rolled D_Layout_pieces hr) pure__law_is_layout) (fun _ _ _ _ _ _ us hl => match us, hl with | [_, _], _ => rfl)
theorem sc_parts_of : FnScope N_parts_of P_parts_of (defScope s_parts_of) := ⟨rfl, rfl, rfl, by decide +kernel, rfl, by decide +kernel, by decide +kernel⟩
theorem w_parts_of {P : Program} {w : World} {K : PySem.W.Frag} {T : Tab} {mg : Str → Option Value} {base : Heap}  {cdv : Value} {A : Around} {outer : List Env} {s : Shared} {H : Hp} {E : XK} {f : Addr} (hr : Room 0 (A.deeper (envOfC "parts_of" (defScope s_parts_of) s.heap.objs.size f cdv))) :
    PSs ((cxOf CX0 P w K mg base N_parts_of "parts_of" (defScope s_parts_of) f cdv A outer s H E).nox) (defBody s_parts_of) (UpS K T ⟨mg, E⟩ t_parts_of) :=
  (ds_one (ds_match (de_var (i := 0) rfl (.inl rfl)) (pcs_c sc_parts_of.nd (pp_seq rfl (pps_cons (pp_val (u64 hr)) (pps_cons pp_cap pps_nil)) rfl) (.cons rfl (.inl rfl) (by first | exact .inl rfl | exact .inr rfl) .nil) rfl (ds_one (ds_ret (de_tup (da_cons (de_tup (da_cons de_str (da_cons (de_var (i := 1) rfl (.inl rfl)) da_nil))) (da_cons (de_tup (da_cons de_str (da_cons (de_sub (de_var (i := 2) rfl (.inl rfl)) (de_var (i := 1) rfl (.inl rfl))) da_nil))) da_nil))))) (pcs_c sc_parts_of.nd (pp_seq rfl (pps_cons (pp_val (u64 hr)) (pps_cons pp_cap (pps_cons pp_cap pps_nil))) rfl) (.cons rfl (.inl rfl) (by first | exact .inl rfl | exact .inr rfl) (.cons rfl (.inl rfl) (by first | exact .inl rfl | exact .inr rfl) .nil)) rfl (ds_one (ds_ret (de_tup (da_cons (de_tup (da_cons de_str (da_cons (de_var (i := 3) rfl (.inl rfl)) (da_cons (de_sub (de_add (de_var (i := 3) rfl (.inl rfl)) (de_var (i := 1) rfl (.inl rfl))) de_int) da_nil)))) (da_cons (de_tup (da_cons de_str (da_cons (de_add (de_var (i := 3) rfl (.inl rfl)) (de_var (i := 1) rfl (.inl rfl))) (da_cons (de_var (i := 4) rfl (.inl rfl)) da_nil)))) da_nil))))) (pcs_c sc_parts_of.nd (pp_seq rfl (pps_cons pp_cap (pps_cons pp_cap (pps_cons pp_cap (pps_cons pp_cap pps_nil)))) rfl) (.cons rfl (.inl rfl) (by first | exact .inl rfl | exact .inr rfl) (.cons rfl (.inl rfl) (by first | exact .inl rfl | exact .inr rfl) (.cons rfl (.inl rfl) (by first | exact .inl rfl | exact .inr rfl) (.cons rfl (.inl rfl) (by first | exact .inl rfl | exact .inr rfl) .nil)))) rfl (ds_one (ds_ret (de_tup (da_cons (de_tup (da_cons (de_var (i := 5) rfl (.inl rfl)) (da_cons (de_var (i := 6) rfl (.inl rfl)) (da_cons (de_var (i := 7) rfl (.inl rfl)) (da_cons (de_var (i := 1) rfl (.inl rfl)) da_nil))))) (da_cons (de_tup (da_cons (de_var (i := 5) rfl (.inl rfl)) (da_cons (de_var (i := 6) rfl (.inl rfl)) (da_cons (de_var (i := 7) rfl (.inl rfl)) (da_cons (de_sub (de_var (i := 2) rfl (.inl rfl)) (de_var (i := 1) rfl (.inl rfl))) da_nil))))) da_nil))))) pcs_nil)))))
theorem F_parts_of {P : Program} {w : World} {K : PySem.W.Frag} {T : Tab} {mg : Str → Option Value} {base : Heap} {f : Addr} {fd : FuncData} (F : FunD K "parts_of" "parts_of" (defArgs s_parts_of) (defBody s_parts_of) (defScope s_parts_of) [] [] f fd) (m : mg "parts_of" = some (.ref f))  : Fn P w K T mg base "parts_of" 1 [] C_parts_of := fn_mk F m (fn_ok F sc_parts_of C_parts_of t_parts_of (fun ds QD h => by first | exact C_bag_len ds QD h | exact C_of_len ds QD h | (obtain ⟨rfl, _⟩ := h; rfl) | (obtain ⟨_, rfl, _⟩ := h; rfl) | (obtain ⟨_, _, rfl, _⟩ := h; rfl) | (obtain ⟨_, _, _, rfl, _⟩ := h; rfl) | (obtain ⟨_, _, _, _, rfl, _⟩ := h; rfl) | (match ds, h with | [_], _ => rfl) | (match ds, h with | [_, _], _ => rfl)) (fun cdv A outer s H E hr => w_parts_of  hr) pure_parts_of) (fun _ _ _ _ _ _ us hl => match us, hl with | [_, _], _ => rfl)
theorem sc_cut : FnScope N_cut P_cut (defScope s_cut) := ⟨rfl, rfl, rfl, by decide +kernel, rfl, by decide +kernel, by decide +kernel⟩
theorem w_cut {P : Program} {w : World} {K : PySem.W.Frag} {T : Tab} {mg : Str → Option Value} {base : Heap} (hB : Bl mg) (D_size_of : Fn P w K T mg base "size_of" 1 [] C_size_of) (D_parts_of : Fn P w K T mg base "parts_of" 1 [] C_parts_of) {cdv : Value} {A : Around} {outer : List Env} {s : Shared} {H : Hp} {E : XK} {f : Addr} (hr : Room 1 (A.deeper (envOfC "cut" (defScope s_cut) s.heap.objs.size f cdv))) :
    PSs ((cxOf CX0 P w K mg base N_cut "cut" (defScope s_cut) f cdv A outer s H E).nox) (defBody s_cut) (UpS K T ⟨mg, E⟩ t_cut) :=
  (ds_cons (ds_par (i := 2) (j := 3) rfl sc_cut.nd rfl rfl (by decide) rfl rfl (de_lst da_nil) (de_cb cb_list (pe_callTy call_list_of rfl hB.list_ (by decide +kernel) (da_cons (de_var (i := 0) rfl (.inl rfl)) da_nil))) (by rfl)) (ds_cons (ds_while PassesOwn.never (dt_cmp op_gt (r2_I0 fun _ _ => rfl) (de_var (i := 1) rfl (.inl rfl)) de_int (nomark _)) (ds_cons (ds_set (i := 4) sc_cut.nd rfl (.inl rfl) (de_fn D_size_of (hr.mono (by decide)) rfl (da_cons (de_ixK (k := 0) rfl (de_var (i := 3) rfl (.inl rfl))) da_nil))) (ds_one (ds_if (PW.pt (dw_or (dt_isN (de_var (i := 4) rfl (.inl rfl))) (dw_or1 (dt_cmp op_gt (r2_I0 fun _ _ => rfl) (de_var (i := 4) rfl (.inl rfl)) (de_var (i := 1) rfl (.inl rfl)) (nomark _))))) (ds_cons (ds_asg (de_fn D_parts_of (hr.mono (by decide)) rfl (da_cons (de_ixK (k := 0) rfl (de_var (i := 3) rfl (.inl rfl))) (da_cons (de_var (i := 1) rfl (.inl rfl)) da_nil))) (dg_tup rfl (dgs_cons (dg_name sc_cut.nd rfl (.inl rfl)) (dgs_cons (dg_sub (i := 3) rfl (.inl rfl) de_int) dgs_nil)))) (ds_cons (ds_app (ps_expr (pe_bm PySem.F.plainAttrs_list PySem.F.slot_list_append PySem.F.type_list_append mt_append (pe_var (i := 2) rfl (.inl rfl)) (pa_cons (de_var (i := 5) rfl (.inl rfl)) pa_nil)))) (ds_one (ds_set (i := 1) sc_cut.nd rfl (.inl rfl) de_int)))) (ds_cons (ds_appPop (ps_expr (pe_bm PySem.F.plainAttrs_list PySem.F.slot_list_append PySem.F.type_list_append mt_append (pe_var (i := 2) rfl (.inl rfl)) (pa_cons (pe_bm PySem.F.plainAttrs_list PySem.F.slot_list_pop PySem.F.type_list_pop mt_popAt (pe_var (i := 3) rfl (.inl rfl)) (pa_cons pe_int pa_nil)) pa_nil)))) (ds_one (ds_aug (i := 1) sc_cut.nd rfl (.inl rfl) (de_var (i := 4) rfl (.inl rfl)) ip_sub))))))) (ds_frz (ds_frz (ds_one (ds_ret (de_tup (da_cons (de_var (i := 2) rfl (.inl rfl)) (da_cons (de_var (i := 3) rfl (.inl rfl)) da_nil)))))))))
theorem F_cut {P : Program} {w : World} {K : PySem.W.Frag} {T : Tab} {mg : Str → Option Value} {base : Heap} {f : Addr} {fd : FuncData} (F : FunD K "cut" "cut" (defArgs s_cut) (defBody s_cut) (defScope s_cut) [] [] f fd) (m : mg "cut" = some (.ref f)) (hB : Bl mg) (D_size_of : Fn P w K T mg base "size_of" 1 [] C_size_of) (D_parts_of : Fn P w K T mg base "parts_of" 1 [] C_parts_of) : Fn P w K T mg base "cut" 2 [] C_cut := fn_mk F m (fn_ok F sc_cut C_cut t_cut (fun ds QD h => by first | exact C_bag_len ds QD h | exact C_of_len ds QD h | (obtain ⟨rfl, _⟩ := h; rfl) | (obtain ⟨_, rfl, _⟩ := h; rfl) | (obtain ⟨_, _, rfl, _⟩ := h; rfl) | (obtain ⟨_, _, _, rfl, _⟩ := h; rfl) | (obtain ⟨_, _, _, _, rfl, _⟩ := h; rfl) | (match ds, h with | [_], _ => rfl) | (match ds, h with | [_, _], _ => rfl)) (fun cdv A outer s H E hr => w_cut hB D_size_of D_parts_of hr) pure_cut) (fun _ _ _ _ _ _ us hl => match us, hl with | [_, _], _ => rfl)
theorem sc_label_at : FnScope N_label_at P_label_at (defScope s_label_at) := ⟨rfl, rfl, rfl, by decide +kernel, rfl, by decide +kernel, by decide +kernel⟩
theorem w_label_at {P : Program} {w : World} {K : PySem.W.Frag} {T : Tab} {mg : Str → Option Value} {base : Heap} (D_first_label : Fn P w K T mg base "first_label" 1 [] C_first_label) (D_cut : Fn P w K T mg base "cut" 2 [] C_cut) {cdv : Value} {A : Around} {outer : List Env} {s : Shared} {H : Hp} {E : XK} {f : Addr} (hr : Room 2 (A.deeper (envOfC "label_at" (defScope s_label_at) s.heap.objs.size f cdv))) :
    PSs ((cxOf CX0 P w K mg base N_label_at "label_at" (defScope s_label_at) f cdv A outer s H E).nox) (defBody s_label_at) (UpS K T ⟨mg, E⟩ t_label_at) :=
  (ds_one (ds_ret (de_fn D_first_label (hr.mono (by decide)) rfl (da_cons (de_ixK (k := 0) rfl (de_ixK (k := 1) rfl (de_fn D_cut (hr.mono (by decide)) rfl (da_cons (de_var (i := 0) rfl (.inl rfl)) (da_cons (de_var (i := 1) rfl (.inl rfl)) da_nil))))) da_nil))))
theorem F_label_at {P : Program} {w : World} {K : PySem.W.Frag} {T : Tab} {mg : Str → Option Value} {base : Heap} {f : Addr} {fd : FuncData} (F : FunD K "label_at" "label_at" (defArgs s_label_at) (defBody s_label_at) (defScope s_label_at) [] [] f fd) (m : mg "label_at" = some (.ref f)) (D_first_label : Fn P w K T mg base "first_label" 1 [] C_first_label) (D_cut : Fn P w K T mg base "cut" 2 [] C_cut) : Fn P w K T mg base "label_at" 3 [] C_label_at := fn_mk F m (fn_ok F sc_label_at C_label_at t_label_at (fun ds QD h => by first | exact C_bag_len ds QD h | exact C_of_len ds QD h | (obtain ⟨rfl, _⟩ := h; rfl) | (obtain ⟨_, rfl, _⟩ := h; rfl) | (obtain ⟨_, _, rfl, _⟩ := h; rfl) | (obtain ⟨_, _, _, rfl, _⟩ := h; rfl) | (obtain ⟨_, _, _, _, rfl, _⟩ := h; rfl) | (match ds, h with | [_], _ => rfl) | (match ds, h with | [_, _], _ => rfl)) (fun cdv A outer s H E hr => w_label_at D_first_label D_cut hr) pure_label_at) (fun _ _ _ _ _ _ us hl => match us, hl with | [_, _], _ => rfl)
theorem sc_Layout_row : FnScope N_Layout_row P_Layout_row (defScope s_Layout_row) := ⟨rfl, rfl, rfl, by decide +kernel, rfl, by decide +kernel, by decide +kernel⟩
theorem wx_Layout_row {P : Program} {w : World} {K : PySem.W.Frag} {T : Tab} {mg : Str → Option Value} {base : Heap} (ER_BadRow : ErC P w K mg base "BadRow" 1 ["number"]) (D_label_at : Fn P w K T mg base "label_at" 3 [] C_label_at) (hC0 : ClD K T 0 FS0) {cdv : Value} {A : Around} {outer : List Env} {s : Shared} {H : Hp} {E : XK} {f : Addr} (hr : Room 3 (A.deeper (envOfC "Layout.row" (defScope s_Layout_row) s.heap.objs.size f cdv))) :
    PSs (cxOf (L2.CX P w) P w K mg base N_Layout_row "Layout.row" (defScope s_Layout_row) f cdv A outer s H E) (defBody s_Layout_row) (UpS K T ⟨mg, E⟩ tx_Layout_row) :=
  (ds_cons (ds_if (dt_cmp op_lt (r2_I0 fun _ _ => rfl) (de_var (i := 1) rfl (.inl rfl)) de_int (nomark _)) (ds_one (ds_raise ER_BadRow rfl takes_cx (hr.mono (by decide)) rfl (da_cons (de_var (i := 1) rfl (.inl rfl)) da_nil))) ds_nil) (ds_one (ds_ret (de_fn D_label_at (hr.mono (by decide)) rfl (da_cons (de_fld (c := 0) (j := 0) (de_var (i := 0) rfl (.inl rfl)) hC0.cl (hC0.na (j := 0) rfl) hC0.nd (hC0.at_ rfl)) (da_cons (de_var (i := 1) rfl (.inl rfl)) da_nil))))))
theorem FX_Layout_row {P : Program} {w : World} {K : PySem.W.Frag} {T : Tab} {mg : Str → Option Value} {base : Heap} {f : Addr} {fd : FuncData} (F : FunD K "row" "Layout.row" (defArgs s_Layout_row) (defBody s_Layout_row) (defScope s_Layout_row) [] [] f fd) (hm0 : Meth K (T 0).1 "row" f) (hn0 : ("row" : Str) ∉ (T 0).2) (cl : Cls K (T 0).1) (ER_BadRow : ErC P w K mg base "BadRow" 1 ["number"]) (D_label_at : Fn P w K T mg base "label_at" 3 [] C_label_at) (hC0 : ClD K T 0 FS0) : MtX P w K T mg base 0 "row" 4 [] X_Layout_row := mtx_mk F cl hm0 hn0 (fnx_ok F sc_Layout_row X_Layout_row tx_Layout_row (fun ds QD QE h => by first | (obtain ⟨rfl, _⟩ := h; rfl) | (obtain ⟨_, rfl, _⟩ := h; rfl) | (obtain ⟨_, _, rfl, _⟩ := h; rfl) | (obtain ⟨_, _, _, rfl, _⟩ := h; rfl) | (obtain ⟨_, _, _, _, rfl, _⟩ := h; rfl)) (fun cdv A outer s H E hr => wx_Layout_row ER_BadRow D_label_at hC0 hr) purex_Layout_row) (fun _ _ _ _ _ _ us hl => match us, hl with | [_, _], _ => rfl)
theorem sc_Layout_where : FnScope N_Layout_where P_Layout_where (defScope s_Layout_where) := ⟨rfl, rfl, rfl, by decide +kernel, rfl, by decide +kernel, by decide +kernel⟩
theorem wx_Layout_where {P : Program} {w : World} {K : PySem.W.Frag} {T : Tab} {mg : Str → Option Value} {base : Heap} (ER_BadRow : ErC P w K mg base "BadRow" 1 ["number"]) (hC0 : ClD K T 0 FS0) (D_size_of : Fn P w K T mg base "size_of" 1 [] C_size_of) {cdv : Value} {A : Around} {outer : List Env} {s : Shared} {H : Hp} {E : XK} {f : Addr} (hr : Room 2 (A.deeper (envOfC "Layout.where" (defScope s_Layout_where) s.heap.objs.size f cdv))) :
    PSs (cxOf (L2.CX P w) P w K mg base N_Layout_where "Layout.where" (defScope s_Layout_where) f cdv A outer s H E) (defBody s_Layout_where) (UpS K T ⟨mg, E⟩ tx_Layout_where) :=
  (ds_cons (ds_if (dt_cmp op_lt (r2_I0 fun _ _ => rfl) (de_var (i := 1) rfl (.inl rfl)) de_int (nomark _)) (ds_one (ds_raise ER_BadRow rfl takes_cx (hr.mono (by decide)) rfl (da_cons (de_var (i := 1) rfl (.inl rfl)) da_nil))) ds_nil) (ds_cons (ds_set (i := 2) sc_Layout_where.nd rfl (.inl rfl) de_int) (ds_cons (ds_for owns_cx rfl (de_fld (c := 0) (j := 0) (de_var (i := 0) rfl (.inl rfl)) hC0.cl (hC0.na (j := 0) rfl) hC0.nd (hC0.at_ rfl)) (dg_name sc_Layout_where.nd rfl (.inl rfl)) (ds_cons (ds_if (PW.pt (dw_and (dt_cmp (op_eqD (u64 hr)) r2_eq (de_ixK (k := 0) rfl (de_var (i := 3) rfl (.inl rfl))) de_str (nomark _)) (dw_and (dt_cmp op_le (r2_I0 fun _ _ => rfl) (de_ixK (k := 1) rfl (de_var (i := 3) rfl (.inl rfl))) (de_var (i := 1) rfl (.inl rfl)) (nomark _)) (dw_and1 (PW.pt (dw_or (dt_isN (de_ixK (k := 2) rfl (de_var (i := 3) rfl (.inl rfl)))) (dw_or1 (dt_cmp op_le (r2_I0 fun _ _ => rfl) (de_var (i := 1) rfl (.inl rfl)) (de_ixK (k := 2) rfl (de_var (i := 3) rfl (.inl rfl))) (nomark _))))))))) (ds_one (ds_ret (de_sub (de_add (de_var (i := 2) rfl (.inl rfl)) (de_var (i := 1) rfl (.inl rfl))) (de_ixK (k := 1) rfl (de_var (i := 3) rfl (.inl rfl)))))) ds_nil) (ds_cons (ds_set (i := 4) sc_Layout_where.nd rfl (.inl rfl) (de_fn D_size_of (hr.mono (by decide)) rfl (da_cons (de_var (i := 3) rfl (.inl rfl)) da_nil))) (ds_one (ds_aug (i := 2) sc_Layout_where.nd rfl (.inl rfl) (de_ifExp (dt_isN (de_var (i := 4) rfl (.inl rfl))) de_int (de_var (i := 4) rfl (.inl rfl))) ip_add))))) (ds_one (ds_ret de_none)))))
theorem FX_Layout_where {P : Program} {w : World} {K : PySem.W.Frag} {T : Tab} {mg : Str → Option Value} {base : Heap} {f : Addr} {fd : FuncData} (F : FunD K "where" "Layout.where" (defArgs s_Layout_where) (defBody s_Layout_where) (defScope s_Layout_where) [] [] f fd) (hm0 : Meth K (T 0).1 "where" f) (hn0 : ("where" : Str) ∉ (T 0).2) (cl : Cls K (T 0).1) (ER_BadRow : ErC P w K mg base "BadRow" 1 ["number"]) (hC0 : ClD K T 0 FS0) (D_size_of : Fn P w K T mg base "size_of" 1 [] C_size_of) : MtX P w K T mg base 0 "where" 3 [] X_Layout_where := mtx_mk F cl hm0 hn0 (fnx_ok F sc_Layout_where X_Layout_where tx_Layout_where (fun ds QD QE h => by first | (obtain ⟨rfl, _⟩ := h; rfl) | (obtain ⟨_, rfl, _⟩ := h; rfl) | (obtain ⟨_, _, rfl, _⟩ := h; rfl) | (obtain ⟨_, _, _, rfl, _⟩ := h; rfl) | (obtain ⟨_, _, _, _, rfl, _⟩ := h; rfl)) (fun cdv A outer s H E hr => wx_Layout_where ER_BadRow hC0 D_size_of hr) purex_Layout_where) (fun _ _ _ _ _ _ us hl => match us, hl with | [_, _], _ => rfl)
theorem sc_Layout_top : FnScope N_Layout_top P_Layout_top (defScope s_Layout_top) := ⟨rfl, rfl, rfl, by decide +kernel, rfl, by decide +kernel, by decide +kernel⟩
theorem w_Layout_top {P : Program} {w : World} {K : PySem.W.Frag} {T : Tab} {mg : Str → Option Value} {base : Heap} (hC0 : ClD K T 0 FS0) {cdv : Value} {A : Around} {outer : List Env} {s : Shared} {H : Hp} {E : XK} {f : Addr} (hr : Room 0 (A.deeper (envOfC "Layout.top" (defScope s_Layout_top) s.heap.objs.size f cdv))) :
    PSs ((cxOf CX0 P w K mg base N_Layout_top "Layout.top" (defScope s_Layout_top) f cdv A outer s H E).nox) (defBody s_Layout_top) (UpS K T ⟨mg, E⟩ t_Layout_top) :=
  (ds_one (ds_ret (de_ifExp (dt_cmp (op_eqD (u64 hr)) r2_eq (de_ixK (k := 0) rfl (de_ixK (k := 0) rfl (de_fld (c := 0) (j := 0) (de_var (i := 0) rfl (.inl rfl)) hC0.cl (hC0.na (j := 0) rfl) hC0.nd (hC0.at_ rfl)))) de_str (nomark _)) (de_ixK (k := 1) rfl (de_ixK (k := 0) rfl (de_fld (c := 0) (j := 0) (de_var (i := 0) rfl (.inl rfl)) hC0.cl (hC0.na (j := 0) rfl) hC0.nd (hC0.at_ rfl)))) de_int)))
theorem F_Layout_top {P : Program} {w : World} {K : PySem.W.Frag} {T : Tab} {mg : Str → Option Value} {base : Heap} {f : Addr} {fd : FuncData} {p : Addr} (F : FunD K "top" "Layout.top" (defArgs s_Layout_top) (defBody s_Layout_top) (defScope s_Layout_top) [] [] f fd) (hp0 : PropOf K (T 0).1 "top" p f) (cl : Cls K (T 0).1) (hC0 : ClD K T 0 FS0) : Pr P w K T mg base 0 "top" 1 C_Layout_top := pr_mk F cl hp0 (fn_ok F sc_Layout_top C_Layout_top t_Layout_top (fun ds QD h => by first | exact C_bag_len ds QD h | exact C_of_len ds QD h | (obtain ⟨rfl, _⟩ := h; rfl) | (obtain ⟨_, rfl, _⟩ := h; rfl) | (obtain ⟨_, _, rfl, _⟩ := h; rfl) | (obtain ⟨_, _, _, rfl, _⟩ := h; rfl) | (obtain ⟨_, _, _, _, rfl, _⟩ := h; rfl) | (match ds, h with | [_], _ => rfl) | (match ds, h with | [_, _], _ => rfl)) (fun cdv A outer s H E hr => w_Layout_top hC0 hr) pure_Layout_top) (fun _ _ _ _ _ _ us hl => match us, hl with | [_], _ => rfl)
theorem sc_Layout_tail : FnScope N_Layout_tail P_Layout_tail (defScope s_Layout_tail) := ⟨rfl, rfl, rfl, by decide +kernel, rfl, by decide +kernel, by decide +kernel⟩
theorem w_Layout_tail {P : Program} {w : World} {K : PySem.W.Frag} {T : Tab} {mg : Str → Option Value} {base : Heap} (hC0 : ClD K T 0 FS0) {cdv : Value} {A : Around} {outer : List Env} {s : Shared} {H : Hp} {E : XK} {f : Addr} (hr : Room 0 (A.deeper (envOfC "Layout.tail" (defScope s_Layout_tail) s.heap.objs.size f cdv))) :
    PSs ((cxOf CX0 P w K mg base N_Layout_tail "Layout.tail" (defScope s_Layout_tail) f cdv A outer s H E).nox) (defBody s_Layout_tail) (UpS K T ⟨mg, E⟩ t_Layout_tail) :=
  (ds_one (ds_ret (de_ixK (k := 1) rfl (de_ixL (de_fld (c := 0) (j := 0) (de_var (i := 0) rfl (.inl rfl)) hC0.cl (hC0.na (j := 0) rfl) hC0.nd (hC0.at_ rfl))))))
theorem F_Layout_tail {P : Program} {w : World} {K : PySem.W.Frag} {T : Tab} {mg : Str → Option Value} {base : Heap} {f : Addr} {fd : FuncData} {p : Addr} (F : FunD K "tail" "Layout.tail" (defArgs s_Layout_tail) (defBody s_Layout_tail) (defScope s_Layout_tail) [] [] f fd) (hp0 : PropOf K (T 0).1 "tail" p f) (cl : Cls K (T 0).1) (hC0 : ClD K T 0 FS0) : Pr P w K T mg base 0 "tail" 1 C_Layout_tail := pr_mk F cl hp0 (fn_ok F sc_Layout_tail C_Layout_tail t_Layout_tail (fun ds QD h => by first | exact C_bag_len ds QD h | exact C_of_len ds QD h | (obtain ⟨rfl, _⟩ := h; rfl) | (obtain ⟨_, rfl, _⟩ := h; rfl) | (obtain ⟨_, _, rfl, _⟩ := h; rfl) | (obtain ⟨_, _, _, rfl, _⟩ := h; rfl) | (obtain ⟨_, _, _, _, rfl, _⟩ := h; rfl) | (match ds, h with | [_], _ => rfl) | (match ds, h with | [_, _], _ => rfl)) (fun cdv A outer s H E hr => w_Layout_tail hC0 hr) pure_Layout_tail) (fun _ _ _ _ _ _ us hl => match us, hl with | [_], _ => rfl)
theorem sc_Layout_shift : FnScope N_Layout_shift P_Layout_shift (defScope s_Layout_shift) := ⟨rfl, rfl, rfl, by decide +kernel, rfl, by decide +kernel, by decide +kernel⟩
theorem w_Layout_shift {P : Program} {w : World} {K : PySem.W.Frag} {T : Tab} {mg : Str → Option Value} {base : Heap} (hC0 : ClD K T 0 FS0) (D_size_of : Fn P w K T mg base "size_of" 1 [] C_size_of) (hB : Bl mg) {cdv : Value} {A : Around} {outer : List Env} {s : Shared} {H : Hp} {E : XK} {f : Addr} (hr : Room 1 (A.deeper (envOfC "Layout.shift" (defScope s_Layout_shift) s.heap.objs.size f cdv))) :
    PSs ((cxOf CX0 P w K mg base N_Layout_shift "Layout.shift" (defScope s_Layout_shift) f cdv A outer s H E).nox) (defBody s_Layout_shift) (UpS K T ⟨mg, E⟩ t_Layout_shift) :=
  (ds_one (ds_ret (de_sub (de_cb cb_sum (pe_callB (cr_sum rfl) rfl hB.sum_ (by decide +kernel) (da_cons (de_lcG (own := [("piece", 1)]) (fun _ _ _ => lc_up) rfl sc_Layout_shift.nd (pi_seq (de_sl (de_fld (c := 0) (j := 0) (de_var (i := 0) rfl (.inl rfl)) hC0.cl (hC0.na (j := 0) rfl) hC0.nd (hC0.at_ rfl)) do_none (do_some (de_neg de_int)))) (blkOk_by rfl) (fun _ _ _ _ _ => (dgw_name (by decide) sc_Layout_shift.nd rfl (.inl rfl))) (fun _ _ _ _ _ => dts_nil) (fun _ _ _ _ _ => (de_fn D_size_of (hr.mono (by decide)) rfl (da_cons (de_var (i := 1) rfl (.inl rfl)) da_nil)))) da_nil))) (de_ixK (k := 1) rfl (de_ixL (de_fld (c := 0) (j := 0) (de_var (i := 0) rfl (.inl rfl)) hC0.cl (hC0.na (j := 0) rfl) hC0.nd (hC0.at_ rfl)))))))
theorem F_Layout_shift {P : Program} {w : World} {K : PySem.W.Frag} {T : Tab} {mg : Str → Option Value} {base : Heap} {f : Addr} {fd : FuncData} {p : Addr} (F : FunD K "shift" "Layout.shift" (defArgs s_Layout_shift) (defBody s_Layout_shift) (defScope s_Layout_shift) [] [] f fd) (hp0 : PropOf K (T 0).1 "shift" p f) (cl : Cls K (T 0).1) (hC0 : ClD K T 0 FS0) (D_size_of : Fn P w K T mg base "size_of" 1 [] C_size_of) (hB : Bl mg) : Pr P w K T mg base 0 "shift" 2 C_Layout_shift := pr_mk F cl hp0 (fn_ok F sc_Layout_shift C_Layout_shift t_Layout_shift (fun ds QD h => by first | exact C_bag_len ds QD h | exact C_of_len ds QD h | (obtain ⟨rfl, _⟩ := h; rfl) | (obtain ⟨_, rfl, _⟩ := h; rfl) | (obtain ⟨_, _, rfl, _⟩ := h; rfl) | (obtain ⟨_, _, _, rfl, _⟩ := h; rfl) | (obtain ⟨_, _, _, _, rfl, _⟩ := h; rfl) | (match ds, h with | [_], _ => rfl) | (match ds, h with | [_, _], _ => rfl)) (fun cdv A outer s H E hr => w_Layout_shift hC0 D_size_of hB hr) pure_Layout_shift) (fun _ _ _ _ _ _ us hl => match us, hl with | [_], _ => rfl)
theorem sc_law : FnScope N_law P_law (defScope s_law) := ⟨rfl, rfl, rfl, by decide +kernel, rfl, by decide +kernel, by decide +kernel⟩
theorem w_law {P : Program} {w : World} {K : PySem.W.Frag} {T : Tab} {mg : Str → Option Value} {base : Heap} (D__law_any_rows : Fn P w K T mg base "_law_any_rows" 3 [] C__law_any_rows) (D__law_rolled : Fn P w K T mg base "_law_rolled" 1 [] C__law_rolled) (D__law_made_of : Fn P w K T mg base "_law_made_of" 7 [] C__law_made_of) (D__law_like : Fn P w K T mg base "_law_like" 12 [] C__law_like) (hB : Bl mg) (D_Layout_row : Mt P w K T mg base 0 "row" 4 [] C_Layout_row) (D_Layout_where : Mt P w K T mg base 0 "where" 3 [] C_Layout_where) (D_Layout_shift : Pr P w K T mg base 0 "shift" 2 C_Layout_shift) (D_Layout_tail : Pr P w K T mg base 0 "tail" 1 C_Layout_tail) (D_Layout_top : Pr P w K T mg base 0 "top" 1 C_Layout_top) (D__law_far : Fn P w K T mg base "_law_far" 3 [] C__law_far) (TP : TldP P w K T mg base 1) (DX_Layout_where : MtX P w K T mg base 0 "where" 3 [] X_Layout_where) (DX_Layout_row : MtX P w K T mg base 0 "row" 4 [] X_Layout_row) (D__law_is_layout : Fn P w K T mg base "_law_is_layout" 13 [] C__law_is_layout) {cdv : Value} {A : Around} {outer : List Env} {s : Shared} {H : Hp} {E : XK} {f : Addr} {fd : FuncData} (tf : TabF T mg base fd "law.<locals>.<lambda>") (hcd : fd.code = cdv) (hr : Room 13 (A.deeper (envOfC "law" (defScope s_law) s.heap.objs.size f cdv))) :
    PSs ((cxOf CX0 P w K mg base N_law "law" (defScope s_law) f cdv A outer s H E).nox) (defBody s_law).tail (UpS K T ⟨mg, E⟩ t_law) :=
  (ds_cons (ds_for1 PassesOwn.never rfl rfl hB.range_ (da_cons de_int da_nil) (dg_name sc_law.nd rfl (.inl rfl)) (ds_cons (ds_set (i := 3) sc_law.nd rfl (.inr rfl) (de_fn D__law_any_rows (hr.mono (by decide)) rfl (da_cons (de_var (i := 1) rfl (.inl rfl)) (da_cons de_int da_nil)))) (ds_cons (ds_asg (de_tup (da_cons (de_fn D__law_made_of (hr.mono (by decide)) rfl (da_cons (de_var (i := 3) rfl (.inr (.inl rfl))) da_nil)) (da_cons (de_fn D__law_rolled (hr.mono (by decide)) rfl (da_cons (de_var (i := 3) rfl (.inr (.inl rfl))) da_nil)) da_nil))) (dg_tup rfl (dgs_cons (dg_name sc_law.nd rfl (.inr rfl)) (dgs_cons (dg_name sc_law.nd rfl (.inl rfl)) dgs_nil)))) (ds_cons (ds_if (dt_not (dt_val (de_fn D__law_like (hr.mono (by decide)) rfl (da_cons (de_lcG (own := [("_law_k", 12)]) (fun _ _ _ => lc_up1) rfl sc_law.nd (pi_range1 rfl hB.range_ (da_cons (de_cb cb_len (pe_callB call_len_seq rfl hB.len_ (by decide +kernel) (da_cons (de_var (i := 3) rfl (.inr (.inl rfl))) da_nil))) da_nil)) (blkOk_by rfl) (fun _ _ _ _ _ => (dgw_name (by decide) sc_law.nd rfl (.inl rfl))) (fun _ _ _ _ _ => dts_nil) (fun _ _ _ _ _ => (de_mt D_Layout_row (hr.mono (by decide)) (de_var (i := 4) rfl (.inr (.inl rfl))) (da_cons (de_var (i := 12) rfl (.inl rfl)) da_nil)))) (da_cons (de_var (i := 3) rfl (.inr (.inl rfl))) da_nil))))) (ds_one (ds_ret de_bool)) ds_nil) (ds_cons (ds_set (i := 6) sc_law.nd rfl (.inl rfl) (de_ixK (k := 1) rfl (de_ixL (de_var (i := 5) rfl (.inl rfl))))) (ds_cons (ds_set (i := 7) sc_law.nd rfl (.inl rfl) (de_index (u65 hr) (de_var (i := 3) rfl (.inr (.inl rfl))) (de_tup (da_cons (de_var (i := 6) rfl (.inl rfl)) (da_cons (de_var (i := 6) rfl (.inl rfl)) da_nil))))) (ds_cons (ds_setLcG (own := [("_law_row", 11)]) (fun _ _ _ => lc_up1) rfl sc_law.nd (i := 8) rfl rfl (sw_true rfl rfl rfl (by decide +kernel)) (pi_range1 rfl hB.range_ (da_cons (de_add (de_var (i := 6) rfl (.inl rfl)) de_int) da_nil)) (blkOk_by rfl) (fun _ _ _ _ _ => (dgw_name (by decide) sc_law.nd rfl (.inl rfl))) (fun _ _ _ _ _ => dts_nil) (fun _ _ _ _ _ => (de_ifExp (dt_cmp (op_inD (u65 hr)) r2_in (de_tup (da_cons (de_var (i := 11) rfl (.inl rfl)) (da_cons (de_var (i := 11) rfl (.inl rfl)) da_nil))) (de_var (i := 3) rfl (.inr (.inl rfl))) rfl) (de_index (u65 hr) (de_var (i := 3) rfl (.inr (.inl rfl))) (de_tup (da_cons (de_var (i := 11) rfl (.inl rfl)) (da_cons (de_var (i := 11) rfl (.inl rfl)) da_nil)))) de_none))) (ds_cons (ds_if (dt_not (dt_val (de_fn D__law_like (hr.mono (by decide)) rfl (da_cons (de_lcG (own := [("_law_row", 11)]) (fun _ _ _ => lc_up1) rfl sc_law.nd (pi_range1 rfl hB.range_ (da_cons (de_cb cb_len (pe_callB call_len_seq rfl hB.len_ (by decide +kernel) (da_cons (de_var (i := 8) rfl (.inl rfl)) da_nil))) da_nil)) (blkOk_by rfl) (fun _ _ _ _ _ => (dgw_name (by decide) sc_law.nd rfl (.inl rfl))) (fun _ _ _ _ _ => dts_nil) (fun _ _ _ _ _ => (de_mt D_Layout_where (hr.mono (by decide)) (de_var (i := 4) rfl (.inr (.inl rfl))) (da_cons (de_var (i := 11) rfl (.inl rfl)) da_nil)))) (da_cons (de_sl (de_var (i := 8) rfl (.inl rfl)) do_none (do_some (de_cb cb_len (pe_callB call_len_seq rfl hB.len_ (by decide +kernel) (da_cons (de_var (i := 8) rfl (.inl rfl)) da_nil))))) da_nil))))) (ds_one (ds_ret de_bool)) ds_nil) (ds_cons (ds_if (dt_not (dt_val (de_fn D__law_like (hr.mono (by decide)) rfl (da_cons (de_lst (da_cons (de_prop D_Layout_top (hr.mono (by decide)) (de_var (i := 4) rfl (.inr (.inl rfl)))) (da_cons (de_prop D_Layout_tail (hr.mono (by decide)) (de_var (i := 4) rfl (.inr (.inl rfl)))) (da_cons (de_prop D_Layout_shift (hr.mono (by decide)) (de_var (i := 4) rfl (.inr (.inl rfl)))) da_nil)))) (da_cons (de_lst (da_cons (de_count (u65 hr) (de_var (i := 3) rfl (.inr (.inl rfl))) de_none) (da_cons (de_var (i := 6) rfl (.inl rfl)) (da_cons (de_sub (de_var (i := 7) rfl (.inl rfl)) (de_var (i := 6) rfl (.inl rfl))) da_nil)))) da_nil))))) (ds_one (ds_ret de_bool)) ds_nil) (ds_cons (ds_set (i := 9) sc_law.nd rfl (.inr rfl) (de_fn D__law_far (hr.mono (by decide)) rfl (da_cons (de_var (i := 1) rfl (.inl rfl)) da_nil))) (ds_cons (ds_if (dt_not (dt_val (de_fn D__law_like (hr.mono (by decide)) rfl (da_cons (de_lst (da_cons (de_mt D_Layout_where (hr.mono (by decide)) (de_var (i := 4) rfl (.inr (.inl rfl))) (da_cons (de_add (de_var (i := 6) rfl (.inl rfl)) (de_var (i := 9) rfl (.inr (.inl rfl)))) da_nil)) (da_cons (de_mt D_Layout_row (hr.mono (by decide)) (de_var (i := 4) rfl (.inr (.inl rfl))) (da_cons (de_add (de_var (i := 7) rfl (.inl rfl)) (de_var (i := 9) rfl (.inr (.inl rfl)))) da_nil)) da_nil))) (da_cons (de_lst (da_cons (de_add (de_var (i := 7) rfl (.inl rfl)) (de_var (i := 9) rfl (.inr (.inl rfl)))) (da_cons (de_tup (da_cons (de_add (de_var (i := 6) rfl (.inl rfl)) (de_var (i := 9) rfl (.inr (.inl rfl)))) (da_cons (de_add (de_var (i := 6) rfl (.inl rfl)) (de_var (i := 9) rfl (.inr (.inl rfl)))) da_nil))) da_nil))) da_nil))))) (ds_one (ds_ret de_bool)) ds_nil) (ds_cons (ds_set (i := 10) sc_law.nd rfl (.inl rfl) (de_lst (da_cons (de_told (k := 4) TP (lamT_of tf hcd) (by decide) (hr.mono (by decide)) rfl (LamX.lamS_by rfl) (fun A outer s H E f c hr => (dx_mt DX_Layout_row (hr.mono (by decide)) passes_lam (de_var (i := 4) rfl (.inr (.inr rfl))) (da_cons (de_sub de_int (de_var (i := 9) rfl (.inr (.inr rfl)))) da_nil)))) (da_cons (de_toldD (k := 3) (y := "_law_a") TP (lamT_of tf hcd) (by decide) (hr.mono (by decide)) rfl (lamD_by rfl) rfl (fun A outer s H E f c hr => (dx_mt DX_Layout_where (hr.mono (by decide)) passes_lam (de_var (i := 4) rfl (.inr (.inr rfl))) (da_cons (de_sub de_int (de_var (i := 9) rfl (.inr (.inr rfl)))) da_nil)))) da_nil)))) (ds_one (ds_if (PW.pt (dw_or (dt_cmp (op_neD (u64 hr)) r2_ne (de_var (i := 10) rfl (.inl rfl)) (de_mul (de_lst (da_cons (de_tup (da_cons de_str (da_cons (de_sub de_int (de_var (i := 9) rfl (.inr (.inl rfl)))) da_nil))) da_nil)) de_int) (nomark _)) (dw_or1 (dt_not (dt_val (de_fn D__law_is_layout (hr.mono (by decide)) rfl (da_cons (de_var (i := 4) rfl (.inr (.inl rfl))) (da_cons (de_var (i := 3) rfl (.inr (.inl rfl))) da_nil)))))))) (ds_one (ds_ret de_bool)) ds_nil)))))))))))))) (ds_one (ds_ret de_bool)))
theorem F_law {P : Program} {w : World} {K : PySem.W.Frag} {T : Tab} {mg : Str → Option Value} {base : Heap} {f : Addr} {fd : FuncData} (F : FunD K "law" "law" (defArgs s_law) (defBody s_law) (defScope s_law) [] [] f fd) (D__law_bag : Fn P w K T mg base "_law_bag" 1 [] C__law_bag) (D__law_any_rows : Fn P w K T mg base "_law_any_rows" 3 [] C__law_any_rows) (D__law_rolled : Fn P w K T mg base "_law_rolled" 1 [] C__law_rolled) (D__law_made_of : Fn P w K T mg base "_law_made_of" 7 [] C__law_made_of) (D__law_like : Fn P w K T mg base "_law_like" 12 [] C__law_like) (hB : Bl mg) (D_Layout_row : Mt P w K T mg base 0 "row" 4 [] C_Layout_row) (D_Layout_where : Mt P w K T mg base 0 "where" 3 [] C_Layout_where) (D_Layout_shift : Pr P w K T mg base 0 "shift" 2 C_Layout_shift) (D_Layout_tail : Pr P w K T mg base 0 "tail" 1 C_Layout_tail) (D_Layout_top : Pr P w K T mg base 0 "top" 1 C_Layout_top) (D__law_far : Fn P w K T mg base "_law_far" 3 [] C__law_far) (TP : TldP P w K T mg base 1) (DX_Layout_where : MtX P w K T mg base 0 "where" 3 [] X_Layout_where) (DX_Layout_row : MtX P w K T mg base 0 "row" 4 [] X_Layout_row) (D__law_is_layout : Fn P w K T mg base "_law_is_layout" 13 [] C__law_is_layout) (tf : TabF T mg base fd "law.<locals>.<lambda>") : FnOk P w K mg base CX0 14 f fd P_law (spLaw K T) :=
  law_ok F sc_law t_law (rest := (defBody s_law).tail) rfl rfl (by decide) (fun cdv A outer s H E hcd hr => ⟨_, ps_set (i := 1) sc_law.nd rfl (.inl rfl) (de_fn D__law_bag (hr.mono (by decide)) rfl (da_cons (de_var (i := 0) rfl (.inl rfl)) da_nil)) rfl (by first | exact .inl rfl | exact .inr rfl), fun _ _ _ h => h, w_law D__law_any_rows D__law_rolled D__law_made_of D__law_like hB D_Layout_row D_Layout_where D_Layout_shift D_Layout_tail D_Layout_top D__law_far TP DX_Layout_where DX_Layout_row D__law_is_layout tf hcd hr⟩) pure_law
theorem sc__law_told : FnScope NTold ["_law_ask"] (defScope s__law_told) := ⟨rfl, rfl, rfl, by decide +kernel, rfl, by decide +kernel, by decide +kernel⟩
theorem sc__law_field : FnScope ["_law_e"] ["_law_e"] (defScope s__law_field) := ⟨rfl, rfl, rfl, by decide +kernel, rfl, by decide +kernel, by decide +kernel⟩
theorem sc_BadRow___init__ : FnScope ["self", "number"] ["self", "number"] (defScope s_BadRow___init__) := ⟨rfl, rfl, rfl, by decide +kernel, rfl, by decide +kernel, by decide +kernel⟩
abbrev Tb (K : PySem.W.Frag) : Tab := fun n => match n with | 0 => (He.ga K "Layout", FS0) | 1000 => ((tabP K "law").2, ["law.<locals>.<lambda>"]) | _ => (0, [])
theorem facts {P : Program} {w : World} {K : PySem.W.Frag} {h : Heap} {mg : Str → Option Value} {f : Addr} (X : K.In h) (G : h.Ns mainGlobals mg) (hfa : mg ("law" : Str) = some (.ref f)) (c : Seen tss fns K) (hT0 : PySem.W.tabIn K "law" = some (tabP K "law")) :
    ∃ fd : FuncData, (∀ (s : Shared) (v : Value), BindsTo s fd ⟨[v], []⟩ [("_law_script", v)]) ∧ ∀ base : Heap, K.In base → base.Ns mainGlobals mg → LamX.TabB base mg (tabP K "law").1 (tabP K "law").2 → FnOk P w K mg base CX0 14 f fd ["_law_script"] (spLaw K (Tb K)) := by
  have hB : Bl mg := ⟨He.free_ok X G (c.t 21 (t := ts21) rfl), He.free_ok X G (c.t 22 (t := ts22) rfl), He.free_ok X G (c.t 23 (t := ts23) rfl), He.free_ok X G (c.t 24 (t := ts24) rfl), He.free_ok X G (c.t 25 (t := ts25) rfl), He.free_ok X G (c.t 26 (t := ts26) rfl), He.free_ok X G (c.t 27 (t := ts27) rfl), He.free_ok X G (c.t 28 (t := ts28) rfl), He.free_ok X G (c.t 29 (t := ts29) rfl), He.free_ok X G (c.t 30 (t := ts30) rfl), He.free_ok X G (c.t 31 (t := ts31) rfl), He.free_ok X G (c.t 32 (t := ts32) rfl), He.free_ok X G (c.t 33 (t := ts33) rfl), He.free_ok X G (c.t 34 (t := ts34) rfl), He.free_ok X G (c.t 35 (t := ts35) rfl), He.free_ok X G (c.t 36 (t := ts36) rfl), He.free_ok X G (c.t 37 (t := ts37) rfl)⟩
  have hM0 : mg "Layout" = some (.ref (He.ga K "Layout")) := He.glo_ok X G (c.t 38 (t := ts38) rfl)
  have hK0 : Cls K (He.ga K "Layout") := He.cls_ok (c.t 39 (t := ts39) rfl)
  have hC0 : ClD K (Tb K) 0 FS0 := ⟨hK0, rfl, by decide +kernel, by decide, fun x hx => by
    simp only [FS0, List.mem_cons, List.not_mem_nil, or_false] at hx
    rcases hx with rfl <;> first | exact He.noat_ok (c.t 40 (t := ts40) rfl)⟩
  have hR0 : ClX.CRead K (Tb K 0).1 (.type "type") := tRead_ok (x := "Layout") rfl (c.t 41 (t := ts41) rfl)
  have K_Layout_LIMIT : CCst K (Tb K) mg "Layout" 0 "LIMIT" (.int 60) := tCVal_ok rfl hM0 (c.t 41 (t := ts41) rfl) (c.t 49 (t := ts49) rfl)
  obtain ⟨fd__law_bag, G__law_bag⟩ := c.d 0 (d := df0) rfl
  have m__law_bag : mg "_law_bag" = some (.ref (He.fAd K ("_law_bag", none))) := He.glo_ok X G (c.t 0 (t := ts0) rfl)
  obtain ⟨fd__law_pull, G__law_pull⟩ := c.d 1 (d := df1) rfl
  have m__law_pull : mg "_law_pull" = some (.ref (He.fAd K ("_law_pull", none))) := He.glo_ok X G (c.t 1 (t := ts1) rfl)
  obtain ⟨fd__law_of, G__law_of⟩ := c.d 2 (d := df2) rfl
  have m__law_of : mg "_law_of" = some (.ref (He.fAd K ("_law_of", none))) := He.glo_ok X G (c.t 2 (t := ts2) rfl)
  obtain ⟨fd__law_any_rows, G__law_any_rows⟩ := c.d 3 (d := df3) rfl
  have m__law_any_rows : mg "_law_any_rows" = some (.ref (He.fAd K ("_law_any_rows", none))) := He.glo_ok X G (c.t 3 (t := ts3) rfl)
  obtain ⟨fd__law_far, G__law_far⟩ := c.d 4 (d := df4) rfl
  have m__law_far : mg "_law_far" = some (.ref (He.fAd K ("_law_far", none))) := He.glo_ok X G (c.t 4 (t := ts4) rfl)
  obtain ⟨fd_size_of, G_size_of⟩ := c.d 5 (d := df5) rfl
  have m_size_of : mg "size_of" = some (.ref (He.fAd K ("size_of", none))) := He.glo_ok X G (c.t 5 (t := ts5) rfl)
  obtain ⟨fd_is_piece, G_is_piece⟩ := c.d 6 (d := df6) rfl
  have m_is_piece : mg "is_piece" = some (.ref (He.fAd K ("is_piece", none))) := He.glo_ok X G (c.t 6 (t := ts6) rfl)
  obtain ⟨fd_first_label, G_first_label⟩ := c.d 7 (d := df7) rfl
  have m_first_label : mg "first_label" = some (.ref (He.fAd K ("first_label", none))) := He.glo_ok X G (c.t 7 (t := ts7) rfl)
  obtain ⟨fd_last_label, G_last_label⟩ := c.d 8 (d := df8) rfl
  have m_last_label : mg "last_label" = some (.ref (He.fAd K ("last_label", none))) := He.glo_ok X G (c.t 8 (t := ts8) rfl)
  obtain ⟨fd_may_follow, G_may_follow⟩ := c.d 9 (d := df9) rfl
  have m_may_follow : mg "may_follow" = some (.ref (He.fAd K ("may_follow", none))) := He.glo_ok X G (c.t 9 (t := ts9) rfl)
  obtain ⟨fd_check_pieces, G_check_pieces⟩ := c.d 10 (d := df10) rfl
  have m_check_pieces : mg "check_pieces" = some (.ref (He.fAd K ("check_pieces", none))) := He.glo_ok X G (c.t 10 (t := ts10) rfl)
  obtain ⟨fd_welded, G_welded⟩ := c.d 11 (d := df11) rfl
  have m_welded : mg "welded" = some (.ref (He.fAd K ("welded", none))) := He.glo_ok X G (c.t 11 (t := ts11) rfl)
  obtain ⟨fd_normal, G_normal⟩ := c.d 12 (d := df12) rfl
  have m_normal : mg "normal" = some (.ref (He.fAd K ("normal", none))) := He.glo_ok X G (c.t 12 (t := ts12) rfl)
  obtain ⟨fd_Layout___init__, G_Layout___init__⟩ := c.d 13 (d := df13) rfl
  obtain ⟨fd__law_rolled, G__law_rolled⟩ := c.d 14 (d := df14) rfl
  have m__law_rolled : mg "_law_rolled" = some (.ref (He.fAd K ("_law_rolled", none))) := He.glo_ok X G (c.t 13 (t := ts13) rfl)
  obtain ⟨fd__law_made_of, G__law_made_of⟩ := c.d 15 (d := df15) rfl
  have m__law_made_of : mg "_law_made_of" = some (.ref (He.fAd K ("_law_made_of", none))) := He.glo_ok X G (c.t 14 (t := ts14) rfl)
  obtain ⟨fd__law_like, G__law_like⟩ := c.d 16 (d := df16) rfl
  have m__law_like : mg "_law_like" = some (.ref (He.fAd K ("_law_like", none))) := He.glo_ok X G (c.t 15 (t := ts15) rfl)
  obtain ⟨fd_Layout_pieces, G_Layout_pieces⟩ := c.d 17 (d := df17) rfl
  obtain ⟨fd__law_is_layout, G__law_is_layout⟩ := c.d 18 (d := df18) rfl
  have m__law_is_layout : mg "_law_is_layout" = some (.ref (He.fAd K ("_law_is_layout", none))) := He.glo_ok X G (c.t 16 (t := ts16) rfl)
  obtain ⟨fd_parts_of, G_parts_of⟩ := c.d 19 (d := df19) rfl
  have m_parts_of : mg "parts_of" = some (.ref (He.fAd K ("parts_of", none))) := He.glo_ok X G (c.t 17 (t := ts17) rfl)
  obtain ⟨fd_cut, G_cut⟩ := c.d 20 (d := df20) rfl
  have m_cut : mg "cut" = some (.ref (He.fAd K ("cut", none))) := He.glo_ok X G (c.t 18 (t := ts18) rfl)
  obtain ⟨fd_label_at, G_label_at⟩ := c.d 21 (d := df21) rfl
  have m_label_at : mg "label_at" = some (.ref (He.fAd K ("label_at", none))) := He.glo_ok X G (c.t 19 (t := ts19) rfl)
  obtain ⟨fd_Layout_row, G_Layout_row⟩ := c.d 22 (d := df22) rfl
  obtain ⟨fd_Layout_where, G_Layout_where⟩ := c.d 23 (d := df23) rfl
  obtain ⟨fd_Layout_top, G_Layout_top⟩ := c.d 24 (d := df24) rfl
  obtain ⟨fd_Layout_tail, G_Layout_tail⟩ := c.d 25 (d := df25) rfl
  obtain ⟨fd_Layout_shift, G_Layout_shift⟩ := c.d 26 (d := df26) rfl
  obtain ⟨fd_law, G_law⟩ := c.d 27 (d := df27) rfl
  have m_law : mg "law" = some (.ref (He.fAd K ("law", none))) := He.glo_ok X G (c.t 20 (t := ts20) rfl)
  have e := hfa.symm.trans m_law
  cases e
  refine ⟨fd_law, fun s v => FunD.bindsA (ps := ["_law_script"]) G_law (fun _ _ _ _ _ _ us hl => match us, hl with | [_], _ => rfl) s [v] rfl, fun base _ _ htb0 => ?_⟩
  have TM0 : ((tabP K "law").2, ("law.<locals>.<lambda>" : Str)) ∈ tabsT (Tb K) := (show ((tabP K "law").2, ("law.<locals>.<lambda>" : Str)) ∈ [((tabP K "law").2, ("law.<locals>.<lambda>" : Str))] from List.mem_singleton.mpr rfl)
  have TU0 : ∀ p ∈ tabsT (Tb K), p.1 = (tabP K "law").2 → p.2 = ("law.<locals>.<lambda>" : Str) := fun p hp _ => by rw [List.mem_singleton.mp (show p ∈ [((tabP K "law").2, ("law.<locals>.<lambda>" : Str))] from hp)]
  obtain ⟨fd__law_told, G__law_told⟩ := c.d 28 (d := df28) rfl
  obtain ⟨fd__law_field, G__law_field⟩ := c.d 29 (d := df29) rfl
  obtain ⟨fd_BadRow___init__, G_BadRow___init__⟩ := c.d 30 (d := df30) rfl
  have m__law_told : mg "_law_told" = some (.ref (He.fAd K ("_law_told", none))) := He.glo_ok X G (c.t 53 (t := ts53) rfl)
  have m__law_field : mg "_law_field" = some (.ref (He.fAd K ("_law_field", none))) := He.glo_ok X G (c.t 54 (t := ts54) rfl)
  have CK : ErrK K mg (He.ga K "SpanError") := errK_of X G (c.t 50 (t := ts50) rfl) (c.t 56 (t := ts56) rfl)
  have FP : FldP P w K (Tb K) mg base 1 := fld_mk G__law_field m__law_field sc__law_field (.inl rfl) CK (fun _ _ _ _ _ _ us hl => match us, hl with | [_], _ => rfl)
  have TP : TldP P w K (Tb K) mg base 1 := told_mk G__law_told m__law_told sc__law_told (fun _ _ _ _ _ _ us hl => match us, hl with | [_], _ => rfl) ⟨rfl, rfl, rfl, rfl, rfl, .inl rfl⟩ ⟨_, He.glo_ok X G (c.t 51 (t := ts51) rfl)⟩ ⟨_, He.glo_ok X G (c.t 52 (t := ts52) rfl)⟩ CK FP
  have ER_BadRow : ErC P w K mg base "BadRow" 1 ["number"] := erc_mk1 G_BadRow___init__ sc_BadRow___init__ (He.glo_ok X G (c.t 55 (t := ts55) rfl)) (tOex_ok (c.t 57 (t := ts57) rfl)) (He.meth_ok (c.t 58 (t := ts58) rfl)) (He.noat_ok (c.t 59 (t := ts59) rfl)) (He.noat_ok (c.t 60 (t := ts60) rfl)) (fun _ _ _ _ _ _ us hl => match us, hl with | [_, _], _ => rfl)
  have D__law_bag : Fn P w K (Tb K) mg base "_law_bag" 1 [] C__law_bag := F__law_bag (T := Tb K) (base := base) G__law_bag m__law_bag hB
  have D__law_pull : Fn P w K (Tb K) mg base "_law_pull" 1 [] C__law_pull := F__law_pull (T := Tb K) (base := base) G__law_pull m__law_pull hB
  have D__law_of : Fn P w K (Tb K) mg base "_law_of" 2 [] C__law_of := F__law_of (T := Tb K) (base := base) G__law_of m__law_of D__law_pull hB
  have D__law_any_rows : Fn P w K (Tb K) mg base "_law_any_rows" 3 [] C__law_any_rows := F__law_any_rows (T := Tb K) (base := base) G__law_any_rows m__law_any_rows D__law_of D__law_pull hB
  have D__law_far : Fn P w K (Tb K) mg base "_law_far" 3 [] C__law_far := F__law_far (T := Tb K) (base := base) G__law_far m__law_far D__law_of D__law_pull
  have D_size_of : Fn P w K (Tb K) mg base "size_of" 1 [] C_size_of := F_size_of (T := Tb K) (base := base) G_size_of m_size_of 
  have D_is_piece : Fn P w K (Tb K) mg base "is_piece" 1 [] C_is_piece := F_is_piece (T := Tb K) (base := base) G_is_piece m_is_piece 
  have D_first_label : Fn P w K (Tb K) mg base "first_label" 1 [] C_first_label := F_first_label (T := Tb K) (base := base) G_first_label m_first_label 
  have D_last_label : Fn P w K (Tb K) mg base "last_label" 2 [] C_last_label := F_last_label (T := Tb K) (base := base) G_last_label m_last_label D_first_label
  have D_may_follow : Fn P w K (Tb K) mg base "may_follow" 3 [] C_may_follow := F_may_follow (T := Tb K) (base := base) G_may_follow m_may_follow D_last_label D_first_label
  have D_check_pieces : Fn P w K (Tb K) mg base "check_pieces" 4 [] C_check_pieces := F_check_pieces (T := Tb K) (base := base) G_check_pieces m_check_pieces D_is_piece D_size_of D_may_follow hB
  have D_welded : Fn P w K (Tb K) mg base "welded" 1 [] C_welded := F_welded (T := Tb K) (base := base) G_welded m_welded 
  have D_normal : Fn P w K (Tb K) mg base "normal" 2 [] C_normal := F_normal (T := Tb K) (base := base) G_normal m_normal D_welded
  have M_Layout := F_Layout___init__ (P := P) (w := w) (T := Tb K) (base := base) G_Layout___init__ hM0 (He.mkr_ok (c.t 42 (t := ts42) rfl)) D_check_pieces D_normal hC0 hB K_Layout_LIMIT
  have D__law_rolled : Fn P w K (Tb K) mg base "_law_rolled" 1 [] C__law_rolled := F__law_rolled (T := Tb K) (base := base) G__law_rolled m__law_rolled 
  have D__law_made_of : Fn P w K (Tb K) mg base "_law_made_of" 7 [] C__law_made_of := F__law_made_of (T := Tb K) (base := base) G__law_made_of m__law_made_of D__law_rolled M_Layout
  have D__law_like : Fn P w K (Tb K) mg base "_law_like" 12 [] C__law_like := F__law_like (T := Tb K) (base := base) G__law_like m__law_like hB 10
  have D_Layout_pieces := F_Layout_pieces (P := P) (w := w) (mg := mg) (T := Tb K) (base := base) G_Layout_pieces (He.meth_ok (c.t 43 (t := ts43) rfl)) (show ("pieces" : Str) ∉ FS0 by decide +kernel) hK0 hC0 hB
  have D__law_is_layout : Fn P w K (Tb K) mg base "_law_is_layout" 13 [] C__law_is_layout := F__law_is_layout (T := Tb K) (base := base) G__law_is_layout m__law_is_layout D__law_like D__law_rolled D_Layout_pieces
  have D_parts_of : Fn P w K (Tb K) mg base "parts_of" 1 [] C_parts_of := F_parts_of (T := Tb K) (base := base) G_parts_of m_parts_of 
  have D_cut : Fn P w K (Tb K) mg base "cut" 2 [] C_cut := F_cut (T := Tb K) (base := base) G_cut m_cut hB D_size_of D_parts_of
  have D_label_at : Fn P w K (Tb K) mg base "label_at" 3 [] C_label_at := F_label_at (T := Tb K) (base := base) G_label_at m_label_at D_first_label D_cut
  have DX_Layout_row := FX_Layout_row (P := P) (w := w) (mg := mg) (T := Tb K) (base := base) G_Layout_row (He.meth_ok (c.t 44 (t := ts44) rfl)) (show ("row" : Str) ∉ FS0 by decide +kernel) hK0 ER_BadRow D_label_at hC0
  have D_Layout_row := DX_Layout_row.calm calm_Layout_row
  have DX_Layout_where := FX_Layout_where (P := P) (w := w) (mg := mg) (T := Tb K) (base := base) G_Layout_where (He.meth_ok (c.t 45 (t := ts45) rfl)) (show ("where" : Str) ∉ FS0 by decide +kernel) hK0 ER_BadRow hC0 D_size_of
  have D_Layout_where := DX_Layout_where.calm calm_Layout_where
  have D_Layout_top := F_Layout_top (P := P) (w := w) (mg := mg) (T := Tb K) (base := base) G_Layout_top (tProp_ok (x := "Layout") rfl (c.t 46 (t := ts46) rfl)) hK0 hC0
  have D_Layout_tail := F_Layout_tail (P := P) (w := w) (mg := mg) (T := Tb K) (base := base) G_Layout_tail (tProp_ok (x := "Layout") rfl (c.t 47 (t := ts47) rfl)) hK0 hC0
  have D_Layout_shift := F_Layout_shift (P := P) (w := w) (mg := mg) (T := Tb K) (base := base) G_Layout_shift (tProp_ok (x := "Layout") rfl (c.t 48 (t := ts48) rfl)) hK0 hC0 D_size_of hB
  exact F_law (T := Tb K) G_law D__law_bag D__law_any_rows D__law_rolled D__law_made_of D__law_like hB D_Layout_row D_Layout_where D_Layout_shift D_Layout_tail D_Layout_top D__law_far TP DX_Layout_where DX_Layout_row D__law_is_layout (tabF_of X G hT0 hfa G_law htb0 TM0 TU0)
end PR
open PySem PySem.W PySem.Calls PyProof.Rows
set_option maxHeartbeats 0 in
theorem PySem.Challenge.cw_spanrows_k04_rows_of_layouts_holds : PySem.Challenge.rw_spanrows_k04_rows_of_layouts.Holds := by
  w_on; o_law
  refine HandSHeadRun.head_any (r := PR.R) (q := view PR.R.prog [44]) (H := PR.hk) (ob := PR.ob) (M := 20000) (loose := PR.loose) (d := HandSHeadRun.topDef PR.R.prog 44) (kwd := []) PR.ob_eq
    (by kernel_rfl) (fun s => by kernel_rfl) PR.run (by kernel_rfl) (by kernel_rfl) (by kernel_rfl) (by rfl) (by first | assumption | decide +kernel) (by decide +kernel) ⟨rfl, rfl, rfl, rfl, rfl, by decide +kernel⟩ ?hw ?hc
  case hw => w_witness2
  case hc =>
    refine LamX.walk_ofTsE (l := PySem.Challenge.rw_spanrows_k04_rows_of_layouts) (n := 63) (k := 14) (x := "_law_script") (CX := fun _ => L2.CX0) rfl (by decide) (by kernel_rfl) ⟨rfl, by decide, by decide⟩ ?F (fun _ _ _ _ _ z => z)
    intro w mg fa h Y G hmg0
    obtain ⟨K0, KX0, t, c⟩ := Y
    have KX := DL.hid_in (xs := (["law"] : List PySem.Str)) KX0
    have h0 : ("law" : PySem.Str) ∈ (["law"] : List PySem.Str) := by simp
    have hmg : mg ("law" : PySem.Str) = some (.ref fa) := by
      have e : (HandSHeadRun.topDef PR.R.prog 44).name = ("law" : PySem.Str) := by kernel_rfl
      rw [← e]
      exact hmg0
    obtain ⟨fd, hb, hF⟩ := PR.facts (P := (PySem.Challenge.rw_spanrows_k04_rows_of_layouts).prog) (w := w) KX G hmg c (DL.tabP_hid t h0).2
    refine ⟨DL.hid (["law"] : List PySem.Str) K0, KX, fd, [DL.tabP (DL.hid (["law"] : List PySem.Str) K0) "law"], DL.spLaw (DL.hid (["law"] : List PySem.Str) K0) (PR.Tb (DL.hid (["law"] : List PySem.Str) K0)), fun p hp => ?_, fun p hp => ?_, fun p hp => ?_, hb, fun H a ns hl _ hH hS => ⟨a, ns, rfl, hS, fun p hp => ?_, fun _ => rfl⟩, fun base b1 b2 b3 => hF base b1 b2 (b3 _ (List.mem_cons_self))⟩
    · simp only [List.mem_cons, List.not_mem_nil, or_false] at hp
      rcases hp with rfl
      · exact DL.tab_get t KX0 h0
    · simp only [List.mem_cons, List.not_mem_nil, or_false] at hp
      rcases hp with rfl
      · exact DL.tab_no t h0
    · simp only [List.mem_cons, List.not_mem_nil, or_false] at hp
      rcases hp with rfl
      · exact DL.tab_hd t KX0 h0
    · have hp : p ∈ [((DL.tabP (DL.hid (["law"] : List PySem.Str) K0) "law").2, ("law.<locals>.<lambda>" : PySem.Str))] := hp
      simp only [List.mem_cons, List.not_mem_nil, or_false] at hp
      rcases hp with rfl
      · exact LamX.TabS.nil (hH _ (List.mem_cons_self))
