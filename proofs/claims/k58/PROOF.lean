import PyProof.Rows.All
import Wide.All
import OpenK.AllK
import Wide.FinOn
import HandS.ForMost
import HandS.Flow
import HandS.Deep
import HandS.Lambda
import KE.KStateDown
import HandS.Head0
import HandS.Head1
import HandS.Head2
import HandS.HeadEnd
import HandS.HeadHook1
import HandS.HeadHook2
import HandS.HeadNt
import HandS.ExcField
import HandS.HeadWalk
import HandS.EndTab
import HandS.IsInst
import PySem.Challenge.RW_spanrows_k58_whole_scripts_and_their_tex
import HandS.Wide
import HandS.TupAny
import HandS.Star
import HandS.Codes
import HandS.Defaults
import KE.KUnpack
import HandS.ForExc
import HandS.Style
import KE.GoesMore
import KE.GoesEnum
import PyProof.EnumMake
import HandS.ClsMeth
import HandS.Property
import HandS.Flt
import HandS.ExcOwn
import HandS.ExcInit
import HandS.HotCalls
import HandS.TupLe
import HandS.More
import HandS.OwnEq
import OpenK.KOps
import PyProof.InstNe
import HandS.FStr
import KE.KUnpackStar
import HandS.Text
import KE.KCallOwn
import HandS.Strs
import PyProof.StrOps2
set_option Elab.async false
set_option linter.all false
set_option maxRecDepth 100000
set_option maxHeartbeats 4000000
/-! DL1: data level over the hand layer: data D, what represents it, the situation of a frame. -/
namespace DL
open PySem PySem.Spec PyProof.Rows L2

/-! ### data -/
inductive D where
  | non | bl (b : Bool) | int (i : Int) | str (x : Str) | tup (ds : List D) | lst (ds : List D) | obj (c : Nat) (ds : List D) | bag | cls (c : Nat) | lat (a : Addr) (ds : List D) | scr (ns : List Int) | exn (u dx : Addr) (ns : List Str) (ds : List D) | adr (a : Addr) | dcK (ks : List Str) (ds : List D) | dcT (ks : List (List Int)) (ds : List D)
mutual
@[simp] def D.imm : D → Bool
  | .lst _ => false
  | .obj _ _ => false
  | .tup ds => immAll ds
  | .non => true
  | .bl _ => true
  | .int _ => true
  | .str _ => true
  | .bag => true
  | .cls _ => true
  | .lat _ _ => false
  | .scr _ => false
  | .exn _ _ _ _ => false
  | .adr _ => true
  | .dcK _ _ => false
  | .dcT _ _ => false
@[simp] def immAll : List D → Bool
  | [] => true
  | d :: ds => d.imm && immAll ds
end
/-- the rows of a dict whose keys are tuples of ints: where the keys stand, the values -/
def RowsT (es : List DictEntry) (L : List (Addr × List Int)) (vs : List V) : Prop := ∃ us : List Value, Vals vs us ∧ us.length = L.length ∧ es = (L.zip us).map fun p => ⟨reduceHash (Builtin.Tuple.tupleHashOf (p.1.2.map hashInt)), .ref p.1.1, p.2⟩
/-- such a dict -/
def DcT (a : Addr) (L : List (Addr × List Int)) (vs : List V) : HO := .ext fun h => (a == sysModules) = false ∧ ∃ o es ep, h.get? a = some o ∧ o.ExactDict ∧ o.data = .dict es ep ∧ RowsT es.toList L vs ∧ (L.map (·.2)).Nodup ∧ L.length ≤ sizeLine
/-- a list that stands in the written part -/
def KLst (K : PySem.W.Frag) (a : Addr) (xs : List V) : Prop := ∃ (o : Obj) (its : Array Value) (n : Nat), K.lookup a = some o ∧ o.cls = .type "list" ∧ o.dict = none ∧ o.data = .seq its n ∧ its.size ≤ sizeLine ∧ Vals xs its.toList
/-- classes of the program's own whose instances are data: the class's address, its fields -/
abbrev Tab := Nat → Addr × List Str
section
variable (K : PySem.W.Frag) (T : Tab) (B : Option Addr) (M : Addr → Prop) (H : Hp)
mutual
def Rep : D → V → Prop
  | .non, v => v = .non
  | .bl b, v => v = .bl b
  | .int i, v => v = .int i
  | .str x, v => v = .str x
  | .bag, v => ∃ b, B = some b ∧ v = .ref b
  | .cls c, v => v = .ref (T c).1
  | .lat a ds, v => ∃ vs, v = .ref a ∧ H a = some (.lst vs) ∧ ¬ M a ∧ Reps ds vs
  | .scr ns, v => ∃ a, v = .ref a ∧ ((Rd H a (.lst (ns.map V.int)) ∧ ¬ M a) ∨ KLst K a (ns.map V.int))
  | .exn u dx ns ds, v => ∃ vs, v = .ref u ∧ H dx = some (.xd (ns.zip vs)) ∧ ¬ M dx ∧ Reps ds vs
  | .tup ds, v => ∃ a vs, v = .ref a ∧ SqT K H a vs ∧ Reps ds vs
  | .lst ds, v => ∃ a vs, v = .ref a ∧ H a = some (.lst vs) ∧ ¬ M a ∧ Reps ds vs
  | .obj c ds, v => ∃ a dx vs, v = .ref a ∧ H a = some (.ins (T c).1 dx ((T c).2.zip vs)) ∧ ¬ M a ∧ Reps ds vs
  | .adr a, v => v = .ref a
  | .dcK ks ds, v => ∃ a vs, v = .ref a ∧ H a = some (.dK ((ks.map Sum.inr).zip vs)) ∧ ¬ M a ∧ (ks.length = ds.length ∧ ks.Nodup) ∧ Reps ds vs
  | .dcT ks ds, v => ∃ a L vs, v = .ref a ∧ H a = some (DcT a L vs) ∧ ¬ M a ∧ (L.map (·.2) = ks ∧ ks.length = ds.length ∧ ∀ p ∈ L, SqT K H p.1 (p.2.map V.int)) ∧ Reps ds vs
def Reps : List D → List V → Prop
  | [], vs => vs = []
  | d :: ds, vs => ∃ v r, vs = v :: r ∧ Rep d v ∧ Reps ds r
end
end
/-- no table of code objects -/
def noT (o : HO) : Prop := ∀ ps, o ≠ .tbl ps
/-- something stands there, no table -/
structure Lv (H : Hp) (a : Addr) : Prop where
  ex : ∃ o, H a = some o ∧ noT o
theorem Lv.no {H : Hp} {a : Addr} (h : Lv H a) (n : H a = none) : False := by
  obtain ⟨o, e, _⟩ := h.ex
  rw [n] at e
  cases e
/-- nothing stands there, or a table -/
abbrev Nv (H : Hp) (a : Addr) : Prop := ¬ Lv H a
theorem nl {H : Hp} {a : Addr} (h : H a = none) : Nv H a := fun z => z.no h
instance {H : Hp} {a : Addr} : CoeFun (Lv H a) (fun _ => H a = none → False) := ⟨fun h n => h.no n⟩
theorem Lv.of {H : Hp} {a : Addr} {o : HO} (h : H a = some o) (t : noT o := by intro ps z; cases z) : Lv H a := ⟨o, h, t⟩
theorem tabS_upd {H : Hp} {p : Addr} {o : HO} {P : Addr} {q : Str} (h : LamX.TabS H P q) (hp : ∀ u, H p = some u → (∀ ps, u ≠ .tbl ps) ∧ ∀ f, u ≠ .ext f) : LamX.TabS (upd H p o) P q := by
  obtain ⟨ps, h1, h2, h3⟩ := h
  have n1 : P ≠ p := fun z => (hp _ (z ▸ h1)).1 ps rfl
  refine ⟨ps, by rw [upd_ne n1]; exact h1, h2, fun pos cv e => ?_⟩
  obtain ⟨c, e1, e2⟩ := h3 pos cv e
  have n2 : c ≠ p := fun z => (hp _ (z ▸ e2)).2 _ rfl
  exact ⟨c, e1, by rw [upd_ne n2]; exact e2⟩
/-- what may change lies in N; tables of code objects may grow -/
structure Kp (N : Addr → Prop) (H H' : Hp) : Prop where
  k0 : ∀ a o, H a = some o → ¬ N a → noT o → H' a = some o
  t : ∀ a xs, H a = some (.tup xs) → H' a = some (.tup xs)
  z : ∀ a o u, H a = some (.frz o u) → H' a = some (.frz o u)
  s : ∀ a, Lv H a → Lv H' a
/-- tables of code objects stay what they are -/
def Tk (H H' : Hp) : Prop := ∀ P q, LamX.TabS H P q → LamX.TabS H' P q
theorem Tk.refl {H : Hp} : Tk H H := fun _ _ h => h
theorem Tk.laid {H : Hp} {p : Addr} {o : HO} (hp : H p = none) : Tk H (upd H p o) := fun _ _ h => tabS_upd h fun u e => by rw [hp] at e; cases e
theorem Tk.write {H : Hp} {p : Addr} {o u : HO} (hp : H p = some u) (h1 : noT u) (h2 : ∀ f, u ≠ .ext f) : Tk H (upd H p o) := fun _ _ h => tabS_upd h fun u e => by rw [hp] at e; cases e; exact ⟨h1, h2⟩
theorem Kp.k {N : Addr → Prop} {H H' : Hp} (x : Kp N H H') (a : Addr) (o : HO) (h : H a = some o) (n : ¬ N a) (t : noT o := by intro ps z; cases z) : H' a = some o := x.k0 a o h n t
theorem Kp.refl {N : Addr → Prop} {H : Hp} : Kp N H H := ⟨fun _ _ h _ _ => h, fun _ _ h => h, fun _ _ _ h => h, fun _ h => h⟩
theorem Kp.trans {N : Addr → Prop} {H H1 H2 : Hp} (a : Kp N H H1) (b : Kp N H1 H2) : Kp N H H2 :=
  ⟨fun c o h n t => b.k0 c o (a.k0 c o h n t) n t, fun c xs h => b.t c xs (a.t c xs h), fun c o u h => b.z c o u (a.z c o u h), fun c h => b.s c (a.s c h)⟩
theorem Kp.mono {N N' : Addr → Prop} {H H' : Hp} (a : Kp N H H') (h : ∀ c, N c → N' c) : Kp N' H H' := ⟨fun c o e n => a.k0 c o e fun z => n (h c z), a.t, a.z, a.s⟩
theorem Kp.laid {N : Addr → Prop} {H : Hp} {p : Addr} {o : HO} (hp : H p = none) : Kp N H (upd H p o) := by
  have ne : ∀ a u, H a = some u → a ≠ p := fun a u e z => by rw [z, hp] at e; cases e
  refine ⟨fun a u e _ _ => by rw [upd_ne (ne a u e)]; exact e, fun a xs e => by rw [upd_ne (ne a _ e)]; exact e, fun a x u e => by rw [upd_ne (ne a _ e)]; exact e, fun a h => ?_⟩
  obtain ⟨u, e, t⟩ := h.ex
  exact Lv.of (by rw [upd_ne (ne a u e)]; exact e) t
theorem Kp.write {N : Addr → Prop} {H : Hp} {p : Addr} {o : HO} {xs : List V} (hN : N p) (hp : H p = some (.lst xs)) (ho : noT o := by intro ps z; cases z) : Kp N H (upd H p o) := by
  refine ⟨fun a u e n _ => ?_, fun a ys e => ?_, fun a x u e => ?_, fun a h => ?_⟩
  · rw [upd_ne fun z => n (by rw [z]; exact hN)]; exact e
  · rw [upd_ne fun z => by rw [z, hp] at e; cases e]; exact e
  · rw [upd_ne fun z => by rw [z, hp] at e; cases e]; exact e
  · by_cases q : a = p
    · rw [q]; exact Lv.of upd_same ho
    · obtain ⟨u, e, t⟩ := h.ex
      exact Lv.of (by rw [upd_ne q]; exact e) t
theorem sqT_kp {K : PySem.W.Frag} {N : Addr → Prop} {H H' : Hp} {a : Addr} {xs : List V} (k : Kp N H H') (h : SqT K H a xs) : SqT K H' a xs := by
  rcases h with (h | ⟨o, h⟩) | h
  · exact .inl (.inl (k.t a xs h))
  · exact .inl (.inr ⟨o, k.z a o _ h⟩)
  · exact .inr h
theorem rd_kp {N : Addr → Prop} {H H' : Hp} {a : Addr} {u : HO} (k : Kp N H H') (n : ¬ N a) (h : Rd H a u) (t : noT u := by intro ps z; cases z) : Rd H' a u := by
  rcases h with h | ⟨o, h⟩
  · exact .inl (k.k0 a _ h n t)
  · exact .inr ⟨o, k.z a o _ h⟩
section
variable {K : PySem.W.Frag} {T : Tab} {B : Option Addr} {M M' N : Addr → Prop} {H H' : Hp}
mutual
theorem Rep.kp (k : Kp N H H') (n : ∀ a, N a → M a) : ∀ (d : D) (v : V), Rep K T B M H d v → Rep K T B M H' d v
  | .non, _, h => h
  | .bl _, _, h => h
  | .int _, _, h => h
  | .str _, _, h => h
  | .bag, _, h => h
  | .cls _, _, h => h
  | .lat a ds, _, ⟨vs, e, s, m, r⟩ => ⟨vs, e, k.k a _ s (fun z => m (n a z)), m, Reps.kp k n ds vs r⟩
  | .exn u dx ns ds, _, ⟨vs, e, s, m, r⟩ => ⟨vs, e, k.k dx _ s (fun z => m (n dx z)), m, Reps.kp k n ds vs r⟩
  | .scr _, _, ⟨a, e, s⟩ => ⟨a, e, s.imp (fun ⟨s, m⟩ => ⟨rd_kp k (fun z => m (n a z)) s, m⟩) id⟩
  | .tup ds, _, ⟨a, vs, e, s, r⟩ => ⟨a, vs, e, sqT_kp k s, Reps.kp k n ds vs r⟩
  | .lst ds, _, ⟨a, vs, e, s, m, r⟩ => ⟨a, vs, e, k.k a _ s (fun z => m (n a z)), m, Reps.kp k n ds vs r⟩
  | .obj c ds, _, ⟨a, dx, vs, e, s, m, r⟩ => ⟨a, dx, vs, e, k.k a _ s (fun z => m (n a z)), m, Reps.kp k n ds vs r⟩
  | .adr _, _, h => h
  | .dcK ks ds, _, ⟨a, vs, e, s, m, q, r⟩ => ⟨a, vs, e, k.k a _ s (fun z => m (n a z)), m, q, Reps.kp k n ds vs r⟩
  | .dcT ks ds, _, ⟨a, L, vs, e, s, m, ⟨q1, q2, q3⟩, r⟩ => ⟨a, L, vs, e, k.k a _ s (fun z => m (n a z)), m, ⟨q1, q2, fun p hp => sqT_kp k (q3 p hp)⟩, Reps.kp k n ds vs r⟩
theorem Reps.kp (k : Kp N H H') (n : ∀ a, N a → M a) : ∀ (ds : List D) (vs : List V), Reps K T B M H ds vs → Reps K T B M H' ds vs
  | [], _, h => h
  | d :: ds, _, ⟨v, r, e, h1, h2⟩ => ⟨v, r, e, Rep.kp k n d v h1, Reps.kp k n ds r h2⟩
end
mutual
theorem Rep.anti (n : ∀ a, M' a → M a) : ∀ (d : D) (v : V), Rep K T B M H d v → Rep K T B M' H d v
  | .non, _, h => h
  | .bl _, _, h => h
  | .int _, _, h => h
  | .str _, _, h => h
  | .bag, _, h => h
  | .cls _, _, h => h
  | .lat a ds, _, ⟨vs, e, s, m, r⟩ => ⟨vs, e, s, (fun z => m (n a z)), Reps.anti n ds vs r⟩
  | .exn u dx ns ds, _, ⟨vs, e, s, m, r⟩ => ⟨vs, e, s, (fun z => m (n dx z)), Reps.anti n ds vs r⟩
  | .scr _, _, ⟨a, e, s⟩ => ⟨a, e, s.imp (fun ⟨s, m⟩ => ⟨s, fun z => m (n a z)⟩) id⟩
  | .tup ds, _, ⟨a, vs, e, s, r⟩ => ⟨a, vs, e, s, Reps.anti n ds vs r⟩
  | .lst ds, _, ⟨a, vs, e, s, m, r⟩ => ⟨a, vs, e, s, (fun z => m (n a z)), Reps.anti n ds vs r⟩
  | .obj c ds, _, ⟨a, dx, vs, e, s, m, r⟩ => ⟨a, dx, vs, e, s, (fun z => m (n a z)), Reps.anti n ds vs r⟩
  | .adr _, _, h => h
  | .dcK ks ds, _, ⟨a, vs, e, s, m, q, r⟩ => ⟨a, vs, e, s, (fun z => m (n a z)), q, Reps.anti n ds vs r⟩
  | .dcT ks ds, _, ⟨a, L, vs, e, s, m, q, r⟩ => ⟨a, L, vs, e, s, (fun z => m (n a z)), q, Reps.anti n ds vs r⟩
theorem Reps.anti (n : ∀ a, M' a → M a) : ∀ (ds : List D) (vs : List V), Reps K T B M H ds vs → Reps K T B M' H ds vs
  | [], _, h => h
  | d :: ds, _, ⟨v, r, e, h1, h2⟩ => ⟨v, r, e, Rep.anti n d v h1, Reps.anti n ds r h2⟩
end
mutual
theorem Rep.new {p : Addr} (hp : Nv H p) : ∀ (d : D) (v : V), Rep K T B M H d v → Rep K T B (fun a => M a ∨ a = p) H d v
  | .non, _, h => h
  | .bl _, _, h => h
  | .int _, _, h => h
  | .str _, _, h => h
  | .bag, _, h => h
  | .cls _, _, h => h
  | .lat a ds, _, ⟨vs, e, s, m, r⟩ => ⟨vs, e, s, (fun z => z.elim m fun z => by
      subst z
      exact hp (Lv.of s)), Reps.new hp ds vs r⟩
  | .exn u dx ns ds, _, ⟨vs, e, s, m, r⟩ => ⟨vs, e, s, (fun z => z.elim m fun z => by
      subst z
      exact hp (Lv.of s)), Reps.new hp ds vs r⟩
  | .scr _, _, ⟨a, e, s⟩ => ⟨a, e, s.imp (fun ⟨s, m⟩ => ⟨s, fun z => Or.elim z m fun z => by
      subst z
      rcases s with s | ⟨o, s⟩ <;> exact hp (Lv.of s)⟩) id⟩
  | .tup ds, _, ⟨a, vs, e, s, r⟩ => ⟨a, vs, e, s, Reps.new hp ds vs r⟩
  | .lst ds, _, ⟨a, vs, e, s, m, r⟩ => ⟨a, vs, e, s, (fun z => z.elim m fun z => by
      subst z
      exact hp (Lv.of s)), Reps.new hp ds vs r⟩
  | .obj c ds, _, ⟨a, dx, vs, e, s, m, r⟩ => ⟨a, dx, vs, e, s, (fun z => z.elim m fun z => by
      subst z
      exact hp (Lv.of s)), Reps.new hp ds vs r⟩
  | .adr _, _, h => h
  | .dcK ks ds, _, ⟨a, vs, e, s, m, q, r⟩ => ⟨a, vs, e, s, (fun z => z.elim m fun z => by
      subst z
      exact hp (Lv.of s)), q, Reps.new hp ds vs r⟩
  | .dcT ks ds, _, ⟨a, L, vs, e, s, m, q, r⟩ => ⟨a, L, vs, e, s, (fun z => z.elim m fun z => by
      subst z
      exact hp (Lv.of s)), q, Reps.new hp ds vs r⟩
theorem Reps.new {p : Addr} (hp : Nv H p) : ∀ (ds : List D) (vs : List V), Reps K T B M H ds vs → Reps K T B (fun a => M a ∨ a = p) H ds vs
  | [], _, h => h
  | d :: ds, _, ⟨v, r, e, h1, h2⟩ => ⟨v, r, e, Rep.new hp d v h1, Reps.new hp ds r h2⟩
end
mutual
theorem Rep.imm : ∀ (d : D) (v : V), d.imm = true → Rep K T B M H d v → Rep K T B M' H d v
  | .non, _, _, h => h
  | .bl _, _, _, h => h
  | .int _, _, _, h => h
  | .str _, _, _, h => h
  | .bag, _, _, h => h
  | .cls _, _, _, h => h
  | .lat _ ds, _, i, _ => by cases i
  | .scr _, _, i, _ => by cases i
  | .exn _ _ _ _, _, i, _ => by cases i
  | .tup ds, _, i, ⟨a, vs, e, s, r⟩ => ⟨a, vs, e, s, Reps.imm ds vs i r⟩
  | .lst ds, _, i, _ => by cases i
  | .obj c ds, _, i, _ => by cases i
  | .adr _, _, _, h => h
  | .dcK _ _, _, i, _ => by cases i
  | .dcT _ _, _, i, _ => by cases i
theorem Reps.imm : ∀ (ds : List D) (vs : List V), immAll ds = true → Reps K T B M H ds vs → Reps K T B M' H ds vs
  | [], _, _, h => h
  | d :: ds, _, i, ⟨v, r, e, h1, h2⟩ => by
    have i2 : (d.imm && immAll ds) = true := i
    obtain ⟨i3, i4⟩ := Bool.and_eq_true_iff.mp i2
    exact ⟨v, r, e, Rep.imm d v i3 h1, Reps.imm ds r i4 h2⟩
end
theorem Reps.len : ∀ {ds : List D} {vs : List V}, Reps K T B M H ds vs → vs.length = ds.length
  | [], _, h => by rw [show _ = [] from h] <;> rfl
  | d :: ds, _, ⟨v, r, e, h1, h2⟩ => by rw [e, List.length_cons, List.length_cons, Reps.len h2]
theorem Reps.get : ∀ {ds : List D} {vs : List V} {i : Nat} {d : D}, Reps K T B M H ds vs → ds[i]? = some d → ∃ v, vs[i]? = some v ∧ Rep K T B M H d v
  | [], _, _, _, _, e => by simp at e
  | d :: ds, _, 0, x, ⟨v, r, e, h1, h2⟩, q => by
    rw [List.getElem?_cons_zero] at q
    cases q
    exact ⟨v, by rw [e, List.getElem?_cons_zero], h1⟩
  | d :: ds, _, i + 1, x, ⟨v, r, e, h1, h2⟩, q => by
    rw [List.getElem?_cons_succ] at q
    obtain ⟨u, a, b⟩ := Reps.get h2 q
    exact ⟨u, by rw [e, List.getElem?_cons_succ]; exact a, b⟩
theorem Reps.append : ∀ {ds es : List D} {vs us : List V}, Reps K T B M H ds vs → Reps K T B M H es us → Reps K T B M H (ds ++ es) (vs ++ us)
  | [], _, _, _, h, g => by rw [show _ = [] from h]; exact g
  | d :: ds, es, _, us, ⟨v, r, e, h1, h2⟩, g => by rw [e]; exact ⟨v, r ++ us, rfl, h1, Reps.append h2 g⟩
theorem Reps.drop : ∀ (n : Nat) {ds : List D} {vs : List V}, Reps K T B M H ds vs → Reps K T B M H (ds.drop n) (vs.drop n)
  | 0, _, _, h => h
  | n + 1, [], _, h => by rw [show _ = [] from h]; rfl
  | n + 1, d :: ds, _, ⟨v, r, e, h1, h2⟩ => by rw [e]; exact Reps.drop n h2
theorem Reps.take : ∀ (n : Nat) {ds : List D} {vs : List V}, Reps K T B M H ds vs → Reps K T B M H (ds.take n) (vs.take n)
  | 0, _, _, _ => rfl
  | n + 1, [], _, h => by rw [show _ = [] from h]; rfl
  | n + 1, d :: ds, _, ⟨v, r, e, h1, h2⟩ => by rw [e]; exact ⟨v, r.take n, rfl, h1, Reps.take n h2⟩
theorem Reps.set : ∀ (n : Nat) {ds : List D} {vs : List V} {d : D} {v : V}, Reps K T B M H ds vs → Rep K T B M H d v → Reps K T B M H (ds.set n d) (vs.set n v)
  | _, [], _, _, _, h, _ => by rw [show _ = [] from h]; rfl
  | 0, d :: ds, _, d', v', ⟨v, r, e, h1, h2⟩, g => by rw [e]; exact ⟨v', r, rfl, g, h2⟩
  | n + 1, d :: ds, _, d', v', ⟨v, r, e, h1, h2⟩, g => by rw [e]; exact ⟨v, r.set n v', rfl, h1, Reps.set n h2 g⟩
theorem Reps.one {d : D} {v : V} (h : Rep K T B M H d v) : Reps K T B M H [d] [v] := ⟨v, [], rfl, h, rfl⟩
theorem Reps.rep {ds : List D} {vs : List V} (h : Reps K T B M H ds vs) : ∀ k : Nat, Reps K T B M H (List.replicate k ds).flatten (List.replicate k vs).flatten
  | 0 => rfl
  | k + 1 => by
    rw [List.replicate_succ, List.replicate_succ, List.flatten_cons, List.flatten_cons]
    exact h.append (Reps.rep h k)
theorem Reps.imp {ds : List D} {vs : List V} (h : Reps K T B M H ds vs) (w : ∀ d v, d ∈ ds → Rep K T B M H d v → Rep K T B M' H' d v) : Reps K T B M' H' ds vs := by
  induction ds generalizing vs with
  | nil => exact h
  | cons d ds ih =>
    obtain ⟨v, r, e, h1, h2⟩ := h
    exact ⟨v, r, e, w d v List.mem_cons_self h1, ih h2 fun d' v' hd => w d' v' (List.mem_cons_of_mem _ hd)⟩
end

/-! ### the situation of a frame -/
/-- where the script stands; the tables of code objects (a place, the name of what is made there) -/
structure LX where
  a : Addr
/-- the tables of code objects: entries from 1000 on -/
def tabsT (T : Tab) : List (Addr × Str) := (T 1000).2.map (fun q => ((T 1000).1, q)) ++ (T 1001).2.map (fun q => ((T 1001).1, q))
/-- the drawing list of the law: [list(script), place, rest, mix, count]; the tables -/
structure BagOk (T : Tab) (B : Option Addr) (L : LX) (H : Hp) : Prop where
  bg : ∀ b, B = some b → b ≠ L.a ∧ ∃ (ns : List Int) (i x m c : Int),
    H b = some (.lst [.ref L.a, .int i, .int x, .int m, .int c]) ∧ H L.a = some (.lst (ns.map V.int)) ∧ 0 ≤ i ∧ 0 ≤ x ∧ 0 ≤ m ∧ m < 2147483563 ∧ 0 ≤ c
  tb : LamX.Tabs (tabsT T) H
/-- B: the drawing list; X: what stands at the entry and may be changed (the instance that is being made, borrowed objects); H0: the heap at the entry; M: what the caller may change; P: what this frame may change (its own lists, the drawing list); G: values that must stay (what a loop walks) -/
structure Sit where
  B : Option Addr
  L : LX
  X : Addr → Prop
  H0 : Hp
  M : Addr → Prop
  P : Addr → Prop
  G : List (Nat × D × V)
abbrev Sit.N (S : Sit) : Addr → Prop := fun a => S.B = some a
abbrev Sit.N0 (S : Sit) : Addr → Prop := fun a => S.B = some a ∨ S.X a
/-- what a store holds at an address -/
inductive MO where
  | lst (ds : List D) | dK (ks : List Str) (ds : List D) | dT (ks : List (List Int)) (ds : List D) | ins (c : Nat) (ds : List D)
abbrev Sto := Addr → Option MO
/-- a frame's store: as it stood at the entry, as it stands -/
structure SO where
  e : Sto
  g : Sto
/-- a store with something laid at an address -/
def stu (g : Sto) (a : Addr) (o : MO) : Sto := fun b => if b = a then some o else g b
/-- v g d: a value that stands for d (grade 0: as things stand; 1: whatever this frame changes; 2: whatever anyone changes); own ds: a list of this frame's own -/
inductive Sl where
  | un | v (g : Nat) (d : D) | own (ds : List D) | ins (c : Nat) (ds : List D) | sto (g : SO)
abbrev DSt := List Sl
@[simp] def Sl.d : Sl → D
  | .v _ d => d
  | .own ds => .lst ds
  | .un => .non
  | .ins _ _ => .non
  | .sto _ => .non
@[simp] def Sl.g : Sl → Nat
  | .v g _ => g
  | .own _ => 2
  | .un => 0
  | .ins _ _ => 0
  | .sto _ => 0
def gset (S : Sit) : Nat → Addr → Prop
  | 0 => fun a => S.B = some a
  | 1 => S.P
  | _ + 2 => fun a => S.P a ∨ S.M a
abbrev RepG (K : PySem.W.Frag) (T : Tab) (S : Sit) (g : Nat) (H : Hp) (d : D) (v : V) : Prop := Rep K T S.B (gset S g) H d v
abbrev RepsG (K : PySem.W.Frag) (T : Tab) (S : Sit) (g : Nat) (H : Hp) (ds : List D) (vs : List V) : Prop := Reps K T S.B (gset S g) H ds vs
/-- the object that slot 0 of such a frame holds: an instance that is being made, or the drawing list (999) -/
def insO (T : Tab) (c : Nat) (dx : Addr) (n : Nat) (vs : List V) : HO := if c = 999 then .lst vs else .ins (T c).1 dx (((T c).2.take n).zip vs)
theorem insO_noT {T : Tab} {c : Nat} {dx : Addr} {n : Nat} {vs : List V} : noT (insO T c dx n vs) := by
  intro ps z
  unfold insO at z
  split at z <;> cases z
theorem insO_bag {T : Tab} {dx : Addr} {n : Nat} {vs : List V} : insO T 999 dx n vs = .lst vs := if_pos rfl
/-- an object of the store -/
def MRep (K : PySem.W.Frag) (T : Tab) (S : Sit) (H : Hp) (a : Addr) : MO → Prop
  | .lst ds => ∃ vs, H a = some (.lst vs) ∧ RepsG K T S 2 H ds vs
  | .dK ks ds => ∃ vs, H a = some (.dK ((ks.map Sum.inr).zip vs)) ∧ (ks.length = ds.length ∧ ks.Nodup) ∧ RepsG K T S 2 H ds vs
  | .dT ks ds => ∃ L vs, H a = some (DcT a L vs) ∧ (L.map (·.2) = ks ∧ ks.length = ds.length ∧ ∀ p ∈ L, SqT K H p.1 (p.2.map V.int)) ∧ RepsG K T S 2 H ds vs
  | .ins c ds => ∃ dx vs, H a = some (.ins (T c).1 dx (((T c).2.take ds.length).zip vs)) ∧ ds.length ≤ (T c).2.length ∧ RepsG K T S 2 H ds vs
structure StoOk (K : PySem.W.Frag) (T : Tab) (S : Sit) (τ : DSt) (σ : L2.St) (H : Hp) (g : SO) : Prop where
  en : ∀ a, S.X a → g.e a ≠ none
  rep : ∀ a o, g.g a = some o → S.P a ∧ S.B ≠ some a ∧ MRep K T S H a o
  own : ∀ a o, g.g a = some o → ∀ (j : Nat) (ds : List D), τ[j]? = some (.own ds) → σ[j]? ≠ some (some (.ref a))
  ins : ∀ a o, g.g a = some o → ∀ (j c : Nat) (ds : List D), τ[j]? = some (.ins c ds) → σ[j]? ≠ some (some (.ref a))
structure SR (K : PySem.W.Frag) (T : Tab) (S : Sit) (τ : DSt) (σ : L2.St) (H : Hp) : Prop where
  len : τ.length = σ.length
  bp : ∀ a, S.B = some a → S.P a
  al : ∀ a, S.P a → Lv H a
  ml : ∀ a, S.M a → Lv S.H0 a
  kp : Kp S.N0 S.H0 H
  xp : ∀ a, S.X a → S.P a ∧ S.B ≠ some a
  fr : ∀ a, S.P a → S.B ≠ some a → ¬ S.X a → Nv S.H0 a
  bl : ∀ a, S.B = some a → Lv S.H0 a
  bag : BagOk T S.B S.L H
  lp : ∀ b, S.B = some b → ¬ S.P S.L.a
  val : ∀ (i : Nat) (g : Nat) (d : D), τ[i]? = some (.v g d) → 1 ≤ g ∧ ∃ v, σ[i]? = some (some v) ∧ RepG K T S g H d v
  own : ∀ (i : Nat) (ds : List D), τ[i]? = some (.own ds) → ∃ p vs, σ[i]? = some (some (.ref p)) ∧ H p = some (.lst vs) ∧ S.P p ∧ S.B ≠ some p ∧ ¬ S.X p ∧ RepsG K T S 2 H ds vs
  ins : ∀ (i c : Nat) (ds : List D), τ[i]? = some (.ins c ds) → i = 0 ∧ ∃ x dx vs, σ[i]? = some (some (.ref x)) ∧ H x = some (insO T c dx ds.length vs) ∧ S.X x ∧ RepsG K T S 2 H ds vs
  gh : ∀ x ∈ S.G, 1 ≤ x.1 ∧ RepG K T S x.1 H x.2.1 x.2.2
  inj : ∀ (i j : Nat) (ds es : List D) (p : Addr), τ[i]? = some (.own ds) → τ[j]? = some (.own es) → σ[i]? = some (some (.ref p)) → σ[j]? = some (some (.ref p)) → i = j
  st : ∀ (i : Nat) (g : SO), τ[i]? = some (.sto g) → StoOk K T S τ σ H g
  su : ∀ (i j : Nat) (g g' : SO), τ[i]? = some (.sto g) → τ[j]? = some (.sto g') → i = j
/-- behind an expression -/
structure Aft (K : PySem.W.Frag) (T : Tab) (S : Sit) (H H' : Hp) : Prop where
  kp : Kp S.N H H'
  bag : BagOk T S.B S.L H'
section
variable {K : PySem.W.Frag} {T : Tab} {S : Sit} {τ : DSt} {σ : L2.St} {H H' H1 H2 : Hp}
theorem Aft.trans (a : Aft K T S H H1) (b : Aft K T S H1 H2) : Aft K T S H H2 := ⟨a.kp.trans b.kp, b.bag⟩
theorem SR.gsub (r : SR K T S τ σ H) (g : Nat) : ∀ a, S.N a → gset S g a := by
  intro a h
  match g with
  | 0 => exact h
  | 1 => exact r.bp a h
  | _ + 2 => exact .inl (r.bp a h)
theorem SR.rep (r : SR K T S τ σ H1) {g : Nat} {d : D} {v : V} (k : Kp S.N H H') (h : RepG K T S g H d v) : RepG K T S g H' d v := Rep.kp k (r.gsub g) d v h
theorem SR.reps (r : SR K T S τ σ H1) {g : Nat} {ds : List D} {vs : List V} (k : Kp S.N H H') (h : RepsG K T S g H ds vs) : RepsG K T S g H' ds vs := Reps.kp k (r.gsub g) ds vs h
theorem gset_le (r : SR K T S τ σ H) {g g' : Nat} (h : g' ≤ g) : ∀ a, gset S g' a → gset S g a := by
  intro a x
  match g', g, h with
  | 0, g, _ => exact r.gsub g a x
  | 1, 1, _ => exact x
  | 1, _ + 2, _ => exact .inl x
  | _ + 2, _ + 2, _ => exact x
theorem RepG.le (r : SR K T S τ σ H1) {g g' : Nat} {d : D} {v : V} (h : g' ≤ g) (x : RepG K T S g H d v) : RepG K T S g' H d v := Rep.anti (gset_le r h) d v x
theorem RepsG.le (r : SR K T S τ σ H1) {g g' : Nat} {ds : List D} {vs : List V} (h : g' ≤ g) (x : RepsG K T S g H ds vs) : RepsG K T S g' H ds vs := Reps.anti (gset_le r h) ds vs x
theorem MRep.kp {a : Addr} (k : Kp S.N H H') (n : ∀ a, S.N a → gset S 2 a) (h : S.B ≠ some a) : ∀ {o : MO}, MRep K T S H a o → MRep K T S H' a o
  | .lst _, ⟨vs, e, r⟩ => ⟨vs, k.k a _ e h, Reps.kp k n _ _ r⟩
  | .dK _ _, ⟨vs, e, q, r⟩ => ⟨vs, k.k a _ e h, q, Reps.kp k n _ _ r⟩
  | .dT _ _, ⟨L, vs, e, ⟨q1, q2, q3⟩, r⟩ => ⟨L, vs, k.k a _ e h (by intro ps z; cases z), ⟨q1, q2, fun p hp => sqT_kp k (q3 p hp)⟩, Reps.kp k n _ _ r⟩
  | .ins _ _, ⟨dx, vs, e, q, r⟩ => ⟨dx, vs, k.k a _ e h, q, Reps.kp k n _ _ r⟩
theorem MRep.lv {a : Addr} : ∀ {o : MO}, MRep K T S H a o → Lv H a
  | .lst _, ⟨vs, e, r⟩ => Lv.of e
  | .dK _ _, ⟨vs, e, q, r⟩ => Lv.of e
  | .dT _ _, ⟨L, vs, e, _, r⟩ => Lv.of e (by intro ps z; cases z)
  | .ins _ _, ⟨dx, vs, e, q, r⟩ => Lv.of e
/-- the store stays behind a change elsewhere -/
theorem MRep.to {S' : Sit} {a : Addr} (he : H' a = H a) (hr : ∀ ds vs, RepsG K T S 2 H ds vs → RepsG K T S' 2 H' ds vs) (ht : ∀ b xs, SqT K H b xs → SqT K H' b xs) : ∀ {o : MO}, MRep K T S H a o → MRep K T S' H' a o
  | .lst _, ⟨vs, e, r⟩ => ⟨vs, he.trans e, hr _ _ r⟩
  | .dK _ _, ⟨vs, e, q, r⟩ => ⟨vs, he.trans e, q, hr _ _ r⟩
  | .dT _ _, ⟨L, vs, e, ⟨q1, q2, q3⟩, r⟩ => ⟨L, vs, he.trans e, ⟨q1, q2, fun p hp => ht _ _ (q3 p hp)⟩, hr _ _ r⟩
  | .ins _ _, ⟨dx, vs, e, q, r⟩ => ⟨dx, vs, he.trans e, q, hr _ _ r⟩
/-- slots change that hold no store: what is own now was so, or is none of the store's -/
theorem StoOk.to {S' : Sit} {τ' : DSt} {σ' : L2.St} {g : SO} (h : StoOk K T S τ σ H g) (hB : S'.B = S.B) (hP : ∀ a o, g.g a = some o → S.P a → S'.P a) (hM : ∀ a o, g.g a = some o → MRep K T S H a o → MRep K T S' H' a o)
    (ho : ∀ a o, g.g a = some o → ∀ (j : Nat) (ds : List D), τ'[j]? = some (.own ds) → σ'[j]? = some (some (.ref a)) → ∃ (j : Nat) (ds : List D), τ[j]? = some (.own ds) ∧ σ[j]? = some (some (.ref a)))
    (hi : ∀ a o, g.g a = some o → ∀ (j c : Nat) (ds : List D), τ'[j]? = some (.ins c ds) → σ'[j]? = some (some (.ref a)) → ∃ (j c : Nat) (ds : List D), τ[j]? = some (.ins c ds) ∧ σ[j]? = some (some (.ref a))) (hX : ∀ a, S'.X a → S.X a := by exact fun _ z => z) : StoOk K T S' τ' σ' H' g :=
  ⟨fun a z => h.en a (hX a z), fun a o m => ⟨hP a o m (h.rep a o m).1, by rw [hB]; exact (h.rep a o m).2.1, hM a o m (h.rep a o m).2.2⟩,
    fun a o m j ds e1 e2 => (by obtain ⟨j', ds', f1, f2⟩ := ho a o m j ds e1 e2; exact h.own a o m j' ds' f1 f2),
    fun a o m j c ds e1 e2 => (by obtain ⟨j', c', ds', f1, f2⟩ := hi a o m j c ds e1 e2; exact h.ins a o m j' c' ds' f1 f2)⟩
theorem Kp.same {N : Addr → Prop} {a : Addr} (k : Kp N H H') (l : Lv H a) (n : ¬ N a) : H' a = H a := by
  obtain ⟨o, e, t⟩ := l.ex
  rw [e]
  exact k.k0 a o e n t
theorem set_sto {i j : Nat} {x : Sl} {g : SO} (hx : ∀ g, x ≠ .sto g) (e : (τ.set i x)[j]? = some (.sto g)) : τ[j]? = some (.sto g) := by
  by_cases c : i = j
  · subst c
    have hi : i < τ.length := by
      rw [← List.length_set]
      exact (List.getElem?_eq_some_iff.mp e).1
    rw [List.getElem?_set_self hi] at e
    exact absurd (Option.some.inj e) (hx g)
  · rwa [List.getElem?_set_ne c] at e
theorem StoOk.set {i : Nat} {x : Sl} {u : Option V} {g : SO} (h : StoOk K T S τ σ H g) (hx : ∀ a o, g.g a = some o → ((∃ ds, x = .own ds) ∨ ∃ c ds, x = .ins c ds) → u ≠ some (.ref a)) : StoOk K T S (τ.set i x) (σ.set i u) H g := by
  have at_ : ∀ (j : Nat) (y : Sl) (v : Option V), (τ.set i x)[j]? = some y → (σ.set i u)[j]? = some v → (x = y ∧ u = v) ∨ (τ[j]? = some y ∧ σ[j]? = some v) := fun j y v e1 e2 => by
    by_cases c : i = j
    · subst c
      have hi : i < τ.length := by
        rw [← List.length_set]
        exact (List.getElem?_eq_some_iff.mp e1).1
      have hi2 : i < σ.length := by
        rw [← List.length_set]
        exact (List.getElem?_eq_some_iff.mp e2).1
      rw [List.getElem?_set_self hi] at e1
      rw [List.getElem?_set_self hi2] at e2
      exact .inl ⟨Option.some.inj e1, Option.some.inj e2⟩
    · rw [List.getElem?_set_ne c] at e1 e2
      exact .inr ⟨e1, e2⟩
  refine ⟨h.en, h.rep, fun a o m j ds e1 e2 => ?_, fun a o m j c ds e1 e2 => ?_⟩
  · rcases at_ j _ _ e1 e2 with ⟨f1, f2⟩ | ⟨f1, f2⟩
    · exact hx a o m (.inl ⟨ds, f1⟩) f2
    · exact h.own a o m j ds f1 f2
  · rcases at_ j _ _ e1 e2 with ⟨f1, f2⟩ | ⟨f1, f2⟩
    · exact hx a o m (.inr ⟨c, ds, f1⟩) f2
    · exact h.ins a o m j c ds f1 f2
theorem StoOk.setT {i : Nat} {x : Sl} {g : SO} (h : StoOk K T S τ σ H g) (hx : ((∃ ds, x = .own ds) ∨ ∃ c ds, x = .ins c ds) → ∀ a o, g.g a = some o → σ[i]? ≠ some (some (.ref a))) : StoOk K T S (τ.set i x) σ H g := by
  have at_ : ∀ (j : Nat) (y : Sl), (τ.set i x)[j]? = some y → (x = y ∧ i = j) ∨ τ[j]? = some y := fun j y e1 => by
    by_cases c : i = j
    · subst c
      have hi : i < τ.length := by
        rw [← List.length_set]
        exact (List.getElem?_eq_some_iff.mp e1).1
      rw [List.getElem?_set_self hi] at e1
      exact .inl ⟨Option.some.inj e1, rfl⟩
    · rw [List.getElem?_set_ne c] at e1
      exact .inr e1
  refine ⟨h.en, h.rep, fun a o m j ds e1 e2 => ?_, fun a o m j c ds e1 e2 => ?_⟩
  · rcases at_ j _ e1 with ⟨f1, rfl⟩ | f1
    · exact hx (.inl ⟨ds, f1⟩) a o m e2
    · exact h.own a o m j ds f1 e2
  · rcases at_ j _ e1 with ⟨f1, rfl⟩ | f1
    · exact hx (.inr ⟨c, ds, f1⟩) a o m e2
    · exact h.ins a o m j c ds f1 e2
theorem StoOk.sit {S' : Sit} {g : SO} (h : StoOk K T S τ σ H g) (hB : S'.B = S.B) (hP : ∀ a o, g.g a = some o → S.P a → S'.P a) (hM : ∀ a o, g.g a = some o → MRep K T S H a o → MRep K T S' H' a o) (hX : ∀ a, S'.X a → S.X a := by exact fun _ z => z) : StoOk K T S' τ σ H' g :=
  h.to hB hP hM (fun _ _ _ j ds e1 e2 => ⟨j, ds, e1, e2⟩) (fun _ _ _ j c ds e1 e2 => ⟨j, c, ds, e1, e2⟩) hX
theorem SR.aft (r : SR K T S τ σ H) (a : Aft K T S H H') : SR K T S τ σ H' where
  len := r.len
  bp := r.bp
  al := fun c h => a.kp.s c (r.al c h)
  ml := r.ml
  kp := r.kp.trans (a.kp.mono fun _ z => .inl z)
  xp := r.xp
  fr := r.fr
  bl := r.bl
  bag := a.bag
  lp := r.lp
  val := fun i g d e => by
    obtain ⟨h1, v, e1, h⟩ := r.val i g d e
    exact ⟨h1, v, e1, r.rep a.kp h⟩
  own := fun i ds e => by
    obtain ⟨p, vs, e1, e2, e3, e4, e5, h⟩ := r.own i ds e
    exact ⟨p, vs, e1, a.kp.k p _ e2 e4, e3, e4, e5, r.reps a.kp h⟩
  ins := fun i c ds e => by
    obtain ⟨z, x, dx, vs, e1, e2, e3, h⟩ := r.ins i c ds e
    exact ⟨z, x, dx, vs, e1, a.kp.k x _ e2 (r.xp x e3).2 insO_noT, e3, r.reps a.kp h⟩
  gh := fun x hx => ⟨(r.gh x hx).1, r.rep a.kp (r.gh x hx).2⟩
  inj := r.inj
  st := fun i g e => (r.st i g e).to rfl (fun _ _ _ z => z) (fun a' o m z => z.kp a.kp (r.gsub 2) ((r.st i g e).rep a' o m).2.1) (fun _ _ _ j ds e1 e2 => ⟨j, ds, e1, e2⟩) (fun _ _ _ j c ds e1 e2 => ⟨j, c, ds, e1, e2⟩)
  su := r.su
theorem BagOk.kp {T : Tab} {B : Option Addr} {L : LX} {N : Addr → Prop} (h : BagOk T B L H) (k : Kp N H H') (tk : Tk H H') (n : ∀ b, B = some b → ¬ N b ∧ ¬ N L.a) : BagOk T B L H' := by
  refine ⟨fun b e => ?_, fun p hp => tk _ _ (h.tb p hp)⟩
  obtain ⟨h0, ns, i, x, m, c, h1, h2, h3⟩ := h.bg b e
  exact ⟨h0, ns, i, x, m, c, k.k b _ h1 (n b e).1, k.k L.a _ h2 (n b e).2, h3⟩
theorem BagOk.kp0 {T : Tab} {B : Option Addr} {L : LX} (h : BagOk T B L H) (k : Kp (fun _ => False) H H') (tk : Tk H H') : BagOk T B L H' := h.kp k tk fun _ _ => ⟨fun z => z, fun z => z⟩
theorem SR.laid (r : SR K T S τ σ H) {p : Addr} {o : HO} (hp : H p = none) : Aft K T S H (upd H p o) := ⟨Kp.laid hp, r.bag.kp0 (Kp.laid hp) (Tk.laid hp)⟩
theorem SR.same (r : SR K T S τ σ H) : Aft K T S H H := ⟨Kp.refl, r.bag⟩
/-- a new address is nobody's -/
theorem SR.newP (r : SR K T S τ σ H) {p : Addr} (hp : Nv H p) : ¬ S.P p := fun h => hp (r.al p h)
theorem SR.newM (r : SR K T S τ σ H) {p : Addr} (hp : Nv H p) : ¬ S.M p := fun h => hp (r.kp.s p (r.ml p h))
theorem SR.newG (r : SR K T S τ σ H) {p : Addr} (hp : Nv H p) (g : Nat) : ¬ gset S g p := by
  match g with
  | 0 => exact fun h => r.newP hp (r.bp p h)
  | 1 => exact r.newP hp
  | _ + 2 => exact fun h => h.elim (r.newP hp) (r.newM hp)
theorem SR.new0 (r : SR K T S τ σ H) {p : Addr} (hp : Nv H p) : Nv S.H0 p := fun h => hp (r.kp.s p h)
end
/-- what stands behind an expression whose value is the slot sl; p0: the heap ahead of it -/
def RepSl (K : PySem.W.Frag) (T : Tab) (S : Sit) (H H' : Hp) (sl : Sl) (v : V) : Prop := match sl with
  | .v g d => RepG K T S g H' d v
  | .own ds => ∃ p vs, v = .ref p ∧ Nv H p ∧ H' p = some (.lst vs) ∧ Reps K T S.B (fun a => gset S 2 a ∨ a = p) H' ds vs
  | .un => False
  | .ins _ _ => False
  | .sto _ => False
theorem RepSl.g {K : PySem.W.Frag} {T : Tab} {S : Sit} {τ : DSt} {σ : L2.St} {H H' : Hp} {sl : Sl} {v : V} (r : SR K T S τ σ H) (h : RepSl K T S H H' sl v) : RepG K T S sl.g H' sl.d v := by
  cases sl with
  | v g d => exact h
  | own ds =>
    obtain ⟨p, vs, e, h1, h2, h3⟩ := h
    exact ⟨p, vs, e, h2, r.newG h1 2, Reps.anti (fun _ z => .inl z) ds vs h3⟩
  | un => exact h.elim
  | ins c ds => exact h.elim
  | sto g => exact h.elim
end DL
/-! DTst: the tests of a head (what they tell is proved in DLH, DLT, DN2, DQ3). -/
namespace DL
open PySem PySem.Spec PyProof.Rows L2
abbrev Tst : Type := PySem.W.Frag → Bool
mutual
def datB (K : PySem.W.Frag) : D → Value → Bool
  | .non, u => (match u with
    | .none => true
    | _ => false)
  | .bl b, u => (match u with
    | .bool c => b == c
    | _ => false)
  | .int i, u => (match u with
    | .int j _ => decide (i = j)
    | _ => false)
  | .str x, u => (match u with
    | .str y _ => decide (x = y)
    | _ => false)
  | .tup ds, u => (match u with
    | .ref a => (match K.lookup a with
      | some o => decide (o.cls = .type "tuple") && (match o.data with
        | .seq its _ => decide (its.size ≤ 1000) && datBs K ds its.toList
        | _ => false)
      | none => false)
    | _ => false)
  | _, _ => false
def datBs (K : PySem.W.Frag) : List D → List Value → Bool
  | [], us => us.isEmpty
  | d :: ds, us => (match us with
    | [] => false
    | u :: us => datB K d u && datBs K ds us)
end
def tCst (x : Str) (d : D) : Tst := fun K => match PySem.W.nsIn K mainGlobals x with
  | some (some u) => datB K d u
  | _ => false
def tRead (x : Str) : Tst := fun K => PySem.W.readsIn K (He.ga K x) (.type "type") && He.eqO (PySem.W.specialIn K (.ref (He.ga K x)) "__getattribute__") (some (some (.builtin "type.__getattribute__")))
def tCVal (x f : Str) (d : D) : Tst := fun K => match PySem.W.findCls K (.ref (He.ga K x)) (.type "type") f with
  | some (.val u) => datB K d u
  | _ => false
def tCMet (x m : Str) : Tst := fun K => He5.wrapB K (He.ga K x) "classmethod" "classmethod.__get__" m && PySem.W.fnIn K (He5.wf K (He.ga K x) "classmethod" m)
def tProp (x f : Str) : Tst := fun K => He.eqO (PySem.W.specialIn K (.ref (He.ma K (He.ga K x) f)) "__get__") (some (some (.builtin "property.__get__"))) && (decide (PySem.W.takesIn K (.ref (He.ma K (He.ga K x) f)) = some true) && (He.eqO (PySem.W.findIn K (.ref (He.ga K x)) f) (some (some (.ref (He.ma K (He.ga K x) f)))) && (match PySem.W.recIn K (He.ma K (He.ga K x) f) "property" with
  | some (.ref _ :: _) => true
  | _ => false)))
def seeB (ts : List Tst) (fn : List He5.DefA) (K : PySem.W.Frag) : He.AlD := (ts.all (fun t => t K) && fn.all (fun d => d.ok K), fn.map fun d => He5.fnA K (d.at_ K))
def mustB (fn : List He5.DefA) : He.AlD := (true, fn.map He5.DefA.val)
def seeG (n : Nat) (ts : List Tst) (fn : List He5.DefA) (g : Addr → Option Obj) : He.AlD := seeB ts fn (He.frG g (He5.asA g n))
structure Seen (ts : List Tst) (fn : List He5.DefA) (K : PySem.W.Frag) : Prop where
  e : seeB ts fn K = mustB fn
def hookB (n : Nat) (ts : List Tst) (fn : List He5.DefA) : PySem.W.Hook where
  α := He.AlD
  obs := fun s => seeG n ts fn s.heap.get?
  val := fun _ => mustB fn
  says := fun _ h => ∃ K : PySem.W.Frag, K.In h ∧ Seen ts fn K
  of := fun _ _ q => ⟨_, He.frG_in, ⟨q⟩⟩
  keeps := fun _ _ _ ⟨K, hK, c⟩ k => ⟨K, PySem.W.Frag.In.keeps hK k, c⟩
/-- the code object of the def x, its table -/
def tabP (K : PySem.W.Frag) (x : Str) : Addr × Addr := match PySem.W.tabIn K x with
  | some p => p
  | none => (0, 0)
/-- the part without those tables -/
def hid (xs : List Str) (K : PySem.W.Frag) : PySem.W.Frag := K.filter fun p => !(xs.map fun x => (tabP K x).2).contains p.1
def isTab : Option Obj → Bool
  | some ⟨.none, none, .fields vs, sl⟩ => vs.isEmpty && sl.isEmpty
  | _ => false
def tabB (xs : List Str) (K : PySem.W.Frag) : Bool := xs.all fun x => isTab (K.lookup (tabP K x).2) && (decide (PySem.W.tabIn (hid xs K) x = some (tabP K x)) && PySem.W.codeHdIn (hid xs K) (tabP K x).1 (tabP K x).2)
def tOex (x : Str) : Tst := fun K => (match K.lookup (He.ga K x) with
  | some ⟨.type "type", _, .cls cd, sl⟩ => (match cd.mro, sl.toList with
    | .ref C' :: bm, [_, _, _, _, some (.builtin n), _] => (C' == He.ga K x && (n == "ValueError.__new__" && (!cd.hasDel && (cd.hasDict && PySem.HandSPX.refsVE bm))))
    | _, _ => false)
  | _ => false) && (He.eqO (PySem.W.findIn K (.ref (He.ga K x)) "__setattr__") (some (some (.builtin "object.__setattr__"))) && (decide (PySem.W.subIn K (.ref (He.ga K x)) (.type "BaseException") = some true) && (decide (PySem.W.typeIn K (.ref (He.ga K x)) = some (.type "type")) && PySem.W.keepIn K (.ref (He.ga K x)))))
def errTab : List (Str × List Str) := [("BadRow", ["number"]), ("BadCount", ["number"]), ("BadSpan", []), ("BadPieces", ["at"]), ("TooManyPieces", ["most"]), ("BadCommand", ["at"]), ("Clash", ["label", "other"]), ("BadCell", []), ("BadContent", []), ("Gone", ["cell"]), ("Ring", ["cell"]), ("Full", ["most"]), ("BadDeed", ["at"]), ("BadName", ["name"]), ("Taken", ["name"]), ("BadText", ["at"])]
def errNames : List Str := ["word", "number", "at", "name", "cell", "most", "label", "other"]
def tErr (x : Str) : Tst := fun K => xfB K (He.ga K x) && (errNames.all (fun n => He.eqO (PySem.W.findIn K (.ref (He.ga K x)) n) (some none)) && decide (PySem.W.exmOne K (.ref (He.ga K x)) (.ref (He.ga K "SpanError")) = some true))
/-- all sixteen classes -/
def tErrs : Tst := fun K => errTab.all fun p => (He.Fa.free p.1).ok K || ((He.Fa.glo p.1).ok K && tErr p.1 K)
def seeT (n : Nat) (ts : List Tst) (fn : List He5.DefA) (xs : List Str) (g : Addr → Option Obj) : Bool × He.AlD := (tabB xs (He.frG g (He5.asA g n)), seeB ts fn (hid xs (He.frG g (He5.asA g n))))
def hookT (n : Nat) (ts : List Tst) (fn : List He5.DefA) (xs : List Str) : PySem.W.Hook where
  α := Bool × He.AlD
  obs := fun s => seeT n ts fn xs s.heap.get?
  val := fun _ => (true, mustB fn)
  says := fun _ h => ∃ K : PySem.W.Frag, K.In h ∧ tabB xs K = true ∧ Seen ts fn (hid xs K)
  of := fun _ _ q => ⟨_, He.frG_in, (Prod.mk.inj q).1, ⟨(Prod.mk.inj q).2⟩⟩
  keeps := fun _ _ _ ⟨K, hK, t, c⟩ k => ⟨K, PySem.W.Frag.In.keeps hK k, t, c⟩
theorem seeT_eq {n : Nat} {ts : List Tst} {fn : List He5.DefA} {xs : List Str} {g : Addr → Option Obj} {s : Shared} (h : ∀ a, g a = s.heap.get? a) : seeT n ts fn xs g = (hookT n ts fn xs).obs s := by
  have q : g = s.heap.get? := funext h
  rw [q] <;> rfl
def tDist (x y : Str) : Tst := fun K => decide ((tabP K x).2 ≠ (tabP K y).2)
def kinds : List String := ["NoneType", "bool", "int", "str", "tuple", "list"]
def tKnd (x : Str) : Tst := fun K => kinds.all fun n => decide (PySem.W.kitOne K (.type n) (.ref (He.ga K x)) = some false) && decide (PySem.W.subIn K (.type n) (.ref (He.ga K x)) = some false)
def tEqD (x : Str) : Tst := fun K => decide (PySem.W.mroIn K (He.ga K x) (.type "object") = some true) && He.eqO (PySem.W.findIn K (.ref (He.ga K x)) "__ne__") (some (some (.builtin "object.__ne__")))
def tInsC (x : Str) : Tst := fun K => He.eqO (PySem.W.findIn K (.ref (He.ga K x)) "__class__") (some (some (.builtin "object.__class__"))) && (He.eqO (PySem.W.specialIn K (.builtin "object.__class__") "__get__") (some (some (.builtin "getset_descriptor.__get__"))) &&
  (decide (PySem.W.takesIn K (.builtin "object.__class__") = some true) && (decide (PySem.W.mroIn K (He.ga K x) (.type "object") = some true) && decide (PySem.W.kitOne K (.ref (He.ga K x)) (.ref (He.ga K x)) = some true))))
end DL
namespace PR
open PySem PySem.Spec PyProof.Rows L2 DL
def top (i : Nat) : Stmt := PySem.Challenge.pw_spanrows_k58_whole_scripts_and_their_tex.main.body.getD i (.Pass ⟨0, 0, 0, 0⟩)
abbrev s__law_bag : Stmt := top 21
abbrev s__law_pull : Stmt := top 22
abbrev s__law_of : Stmt := top 23
abbrev s__law_command : Stmt := top 27
abbrev s__law_script : Stmt := top 28
abbrev s__law_like : Stmt := top 24
abbrev s_number_in : Stmt := top 9
abbrev s_numbers_in : Stmt := top 10
abbrev s_is_command : Stmt := top 12
abbrev s_command_in : Stmt := top 16
abbrev s_parse_script : Stmt := top 17
abbrev s__law_long_text_right : Stmt := top 32
abbrev s__law_bent_text : Stmt := top 20
abbrev s__law_odd_command : Stmt := top 29
abbrev s_check_script : Stmt := top 13
abbrev s_script_text : Stmt := top 15
abbrev s__law_plain_number : Stmt := top 19
abbrev s__law_due_command : Stmt := top 30
abbrev s__law_lines_due : Stmt := top 31
abbrev s_law : Stmt := top 33
abbrev s__law_told : Stmt := top 26
abbrev s__law_field : Stmt := top 25
abbrev s_BadCommand___init__ : Stmt := inClass (top 2) 0
abbrev s_BadText___init__ : Stmt := inClass (top 3) 0
def df0 : He5.DefA := ⟨fun K => He.fAd K ("_law_bag", none), "_law_bag", "_law_bag", defArgs s__law_bag, defBody s__law_bag, defScope s__law_bag, [], []⟩
def df1 : He5.DefA := ⟨fun K => He.fAd K ("_law_pull", none), "_law_pull", "_law_pull", defArgs s__law_pull, defBody s__law_pull, defScope s__law_pull, [], []⟩
def df2 : He5.DefA := ⟨fun K => He.fAd K ("_law_of", none), "_law_of", "_law_of", defArgs s__law_of, defBody s__law_of, defScope s__law_of, [], []⟩
def df3 : He5.DefA := ⟨fun K => He.fAd K ("_law_command", none), "_law_command", "_law_command", defArgs s__law_command, defBody s__law_command, defScope s__law_command, [], []⟩
def df4 : He5.DefA := ⟨fun K => He.fAd K ("_law_script", none), "_law_script", "_law_script", defArgs s__law_script, defBody s__law_script, defScope s__law_script, [], []⟩
def df5 : He5.DefA := ⟨fun K => He.fAd K ("_law_like", none), "_law_like", "_law_like", defArgs s__law_like, defBody s__law_like, defScope s__law_like, [], []⟩
def df6 : He5.DefA := ⟨fun K => He.fAd K ("number_in", none), "number_in", "number_in", defArgs s_number_in, defBody s_number_in, defScope s_number_in, [], []⟩
def df7 : He5.DefA := ⟨fun K => He.fAd K ("numbers_in", none), "numbers_in", "numbers_in", defArgs s_numbers_in, defBody s_numbers_in, defScope s_numbers_in, [], []⟩
def df8 : He5.DefA := ⟨fun K => He.fAd K ("is_command", none), "is_command", "is_command", defArgs s_is_command, defBody s_is_command, defScope s_is_command, [], []⟩
def df9 : He5.DefA := ⟨fun K => He.fAd K ("command_in", none), "command_in", "command_in", defArgs s_command_in, defBody s_command_in, defScope s_command_in, [], []⟩
def df10 : He5.DefA := ⟨fun K => He.fAd K ("parse_script", none), "parse_script", "parse_script", defArgs s_parse_script, defBody s_parse_script, defScope s_parse_script, [], []⟩
def df11 : He5.DefA := ⟨fun K => He.fAd K ("_law_long_text_right", none), "_law_long_text_right", "_law_long_text_right", defArgs s__law_long_text_right, defBody s__law_long_text_right, defScope s__law_long_text_right, [], []⟩
def df12 : He5.DefA := ⟨fun K => He.fAd K ("_law_bent_text", none), "_law_bent_text", "_law_bent_text", defArgs s__law_bent_text, defBody s__law_bent_text, defScope s__law_bent_text, [], []⟩
def df13 : He5.DefA := ⟨fun K => He.fAd K ("_law_odd_command", none), "_law_odd_command", "_law_odd_command", defArgs s__law_odd_command, defBody s__law_odd_command, defScope s__law_odd_command, [], []⟩
def df14 : He5.DefA := ⟨fun K => He.fAd K ("check_script", none), "check_script", "check_script", defArgs s_check_script, defBody s_check_script, defScope s_check_script, [], []⟩
def df15 : He5.DefA := ⟨fun K => He.fAd K ("script_text", none), "script_text", "script_text", defArgs s_script_text, defBody s_script_text, defScope s_script_text, [], []⟩
def df16 : He5.DefA := ⟨fun K => He.fAd K ("_law_plain_number", none), "_law_plain_number", "_law_plain_number", defArgs s__law_plain_number, defBody s__law_plain_number, defScope s__law_plain_number, [], []⟩
def df17 : He5.DefA := ⟨fun K => He.fAd K ("_law_due_command", none), "_law_due_command", "_law_due_command", defArgs s__law_due_command, defBody s__law_due_command, defScope s__law_due_command, [], []⟩
def df18 : He5.DefA := ⟨fun K => He.fAd K ("_law_lines_due", none), "_law_lines_due", "_law_lines_due", defArgs s__law_lines_due, defBody s__law_lines_due, defScope s__law_lines_due, [], []⟩
def df19 : He5.DefA := ⟨fun K => He.fAd K ("law", none), "law", "law", defArgs s_law, defBody s_law, defScope s_law, [], []⟩
def df20 : He5.DefA := ⟨fun K => He.fAd K ("_law_told", none), "_law_told", "_law_told", defArgs s__law_told, defBody s__law_told, defScope s__law_told, [], []⟩
def df21 : He5.DefA := ⟨fun K => He.fAd K ("_law_field", none), "_law_field", "_law_field", defArgs s__law_field, defBody s__law_field, defScope s__law_field, [], []⟩
def df22 : He5.DefA := ⟨fun K => He.fAd K ("BadCommand", some "__init__"), "__init__", "BadCommand.__init__", defArgs s_BadCommand___init__, defBody s_BadCommand___init__, defScope s_BadCommand___init__, [], []⟩
def df23 : He5.DefA := ⟨fun K => He.fAd K ("BadText", some "__init__"), "__init__", "BadText.__init__", defArgs s_BadText___init__, defBody s_BadText___init__, defScope s_BadText___init__, [], []⟩
def fns0 : List He5.DefA := [df0, df1, df2, df3, df4, df5, df6, df7, df8, df9, df10, df11, df12, df13, df14, df15, df16, df17, df18, df19, df20, df21, df22, df23]
def fns : List He5.DefA := fns0
def ts0 : Tst := fun K => (He.Fa.glo "_law_bag").ok K
def ts1 : Tst := fun K => (He.Fa.glo "_law_pull").ok K
def ts2 : Tst := fun K => (He.Fa.glo "_law_of").ok K
def ts3 : Tst := fun K => (He.Fa.glo "_law_command").ok K
def ts4 : Tst := fun K => (He.Fa.glo "_law_script").ok K
def ts5 : Tst := fun K => (He.Fa.glo "_law_like").ok K
def ts6 : Tst := fun K => (He.Fa.glo "number_in").ok K
def ts7 : Tst := fun K => (He.Fa.glo "numbers_in").ok K
def ts8 : Tst := fun K => (He.Fa.glo "is_command").ok K
def ts9 : Tst := fun K => (He.Fa.glo "command_in").ok K
def ts10 : Tst := fun K => (He.Fa.glo "parse_script").ok K
def ts11 : Tst := fun K => (He.Fa.glo "_law_long_text_right").ok K
def ts12 : Tst := fun K => (He.Fa.glo "_law_bent_text").ok K
def ts13 : Tst := fun K => (He.Fa.glo "_law_odd_command").ok K
def ts14 : Tst := fun K => (He.Fa.glo "check_script").ok K
def ts15 : Tst := fun K => (He.Fa.glo "script_text").ok K
def ts16 : Tst := fun K => (He.Fa.glo "_law_plain_number").ok K
def ts17 : Tst := fun K => (He.Fa.glo "_law_due_command").ok K
def ts18 : Tst := fun K => (He.Fa.glo "_law_lines_due").ok K
def ts19 : Tst := fun K => (He.Fa.glo "law").ok K
def ts20 : Tst := fun K => (He.Fa.free "len").ok K
def ts21 : Tst := fun K => (He.Fa.free "range").ok K
def ts22 : Tst := fun K => (He.Fa.free "list").ok K
def ts23 : Tst := fun K => (He.Fa.free "tuple").ok K
def ts24 : Tst := fun K => (He.Fa.free "int").ok K
def ts25 : Tst := fun K => (He.Fa.free "max").ok K
def ts26 : Tst := fun K => (He.Fa.free "min").ok K
def ts27 : Tst := fun K => (He.Fa.free "all").ok K
def ts28 : Tst := fun K => (He.Fa.free "any").ok K
def ts29 : Tst := fun K => (He.Fa.free "enumerate").ok K
def ts30 : Tst := fun K => (He.Fa.free "isinstance").ok K
def ts31 : Tst := fun K => (He.Fa.free "sorted").ok K
def ts32 : Tst := fun K => (He.Fa.free "set").ok K
def ts33 : Tst := fun K => (He.Fa.free "sum").ok K
def ts34 : Tst := fun K => (He.Fa.free "str").ok K
def ts35 : Tst := fun K => (He.Fa.free "repr").ok K
def ts36 : Tst := fun K => (He.Fa.free "bool").ok K
def ts37 : Tst := tCst "MOST_DIGITS" (.int 18)
def ts38 : Tst := tCst "DIGITS" (.str "0123456789")
def ts39 : Tst := fun K => (He.Fa.glo "SpanError").ok K
def ts40 : Tst := fun K => (He.Fa.glo "NoName").ok K
def ts41 : Tst := fun K => (He.Fa.glo "NothingLeft").ok K
def ts42 : Tst := fun K => (He.Fa.glo "_law_told").ok K
def ts43 : Tst := fun K => (He.Fa.glo "_law_field").ok K
def ts44 : Tst := fun K => (He.Fa.glo "BadCommand").ok K
def ts45 : Tst := fun K => (He.Fa.glo "BadText").ok K
def ts46 : Tst := tErrs
def ts47 : Tst := tOex "BadCommand"
def ts48 : Tst := fun K => (He.Fa.meth "BadCommand" "__init__").ok K
def ts49 : Tst := fun K => (He.Fa.noat "BadCommand" "word").ok K
def ts50 : Tst := fun K => (He.Fa.noat "BadCommand" "at").ok K
def ts51 : Tst := tOex "BadText"
def ts52 : Tst := fun K => (He.Fa.meth "BadText" "__init__").ok K
def ts53 : Tst := fun K => (He.Fa.noat "BadText" "word").ok K
def ts54 : Tst := fun K => (He.Fa.noat "BadText" "at").ok K
def ts55 : Tst := tDist "law" "_law_long_text_right"
def tss0 : List Tst := [ts0, ts1, ts2, ts3, ts4, ts5, ts6, ts7, ts8, ts9, ts10, ts11, ts12, ts13, ts14, ts15, ts16, ts17, ts18, ts19, ts20, ts21, ts22, ts23, ts24, ts25, ts26, ts27, ts28, ts29]
def tss1 : List Tst := [ts30, ts31, ts32, ts33, ts34, ts35, ts36, ts37, ts38, ts39, ts40, ts41, ts42, ts43, ts44, ts45, ts46, ts47, ts48, ts49, ts50, ts51, ts52, ts53, ts54, ts55]
def tss : List Tst := tss0 ++ tss1
def loose0 : List Str := ["__name__", "SpanError", "BadCommand", "BadText", "NoName", "NothingLeft", "DIGITS", "MOST_DIGITS", "number_in", "numbers_in", "is_command", "check_script", "script_text", "command_in", "parse_script", "_law_plain_number", "_law_bent_text", "_law_bag", "_law_pull", "_law_of", "_law_like", "_law_field", "_law_told", "_law_command", "_law_script", "_law_odd_command", "_law_due_command", "_law_lines_due", "_law_long_text_right"]
def loose : List Str := loose0
abbrev R : PySem.W.OpenRow := PySem.W.OpenLaw.row PySem.Challenge.rw_spanrows_k58_whole_scripts_and_their_tex
abbrev hk : PySem.W.Hook := hookT 5 tss fns ["law", "_law_long_text_right"]
def ob (s : PySem.W.SharedT) : Bool × He.AlD := seeT 5 tss fns ["law", "_law_long_text_right"] (HandSHeadRun.getT s)
theorem ob_eq (s : PySem.W.SharedT) : ob s = hk.obs s.abs := seeT_eq (HandSHeadRun.getT_eq s)
set_option maxHeartbeats 0 in
theorem run (w : World) : HandSHeadRun.RunEq R (PySem.W.view R.prog [33]) hk ob 20000 loose w := by
  intro os
  kernel_rfl
end PR
/-! DL2: judgements over data: readings of expressions, tests, arguments, statements; the plain rules. -/
namespace L2
open PySem PySem.Spec PyProof.Rows
theorem PE.of {X : Cx} {e : Expr} {t t' : TE} (h : PE X e t) (w : ∀ σ H Q, t' σ H Q → t σ H Q) : PE X e t' := ⟨fun pins s σ H Q I q => h.run pins s σ H Q I (w σ H Q q)⟩
theorem PT.of {X : Cx} {e : Expr} {t t' : TT} (h : PT X e t) (w : ∀ σ H Q, t' σ H Q → t σ H Q) : PT X e t' := ⟨fun pins s σ H Q I q => h.run pins s σ H Q I (w σ H Q q)⟩
theorem PW.of {X : Cx} {e : Expr} {t t' : TT} (h : PW X e t) (w : ∀ σ H Q, t' σ H Q → t σ H Q) : PW X e t' := ⟨fun wh pins s σ H Q I q => h.run wh pins s σ H Q I (w σ H Q q)⟩
theorem PA.of {X : Cx} {e : List Expr} {t t' : TA} (h : PA X e t) (w : ∀ σ H Q, t' σ H Q → t σ H Q) : PA X e t' := ⟨fun pos pins s σ H Q I q => h.run pos pins s σ H Q I (w σ H Q q)⟩
theorem PS.of {X : Cx} {e : Stmt} {t t' : TS} (h : PS X e t) (w : ∀ D σ H, t' D σ H → t D σ H) : PS X e t' := ⟨fun pins s σ H D I q => h.run pins s σ H D I (w D σ H q)⟩
theorem PSs.of {X : Cx} {e : List Stmt} {t t' : TS} (h : PSs X e t) (w : ∀ D σ H, t' D σ H → t D σ H) : PSs X e t' := ⟨fun pins s σ H D I q => h.run pins s σ H D I (w D σ H q)⟩

end L2
namespace DL
open PySem PySem.Spec PyProof.Rows L2

abbrev DTE := DSt → (Sl → Prop) → Prop
abbrev DTT := DSt → (Bool → Prop) → Prop
abbrev DTA := DSt → (Nat → List D → Prop) → Prop
/-- an error that leaves: its class by name, its fields (the last set first) -/
structure Er where
  c : Str
  fs : List (Str × D)
/-- a frame's globals, what it may let out -/
structure EK where
  mg : Str → Option Value
  E : XK
structure DEnds where
  nx : DSt → Prop
  rt : Sl → Prop
  bk : DSt → Prop := fun _ => False
  ct : DSt → Prop := fun _ => False
  rb : DSt → D → Prop := fun _ _ => False
  er : Er → Prop := fun _ => False
  rm : DSt → Sl → Prop := fun _ _ => False
  em : DSt → Er → Prop := fun _ _ => False
abbrev DTS := DEnds → DSt → Prop
section
variable (K : PySem.W.Frag) (T : Tab)
def UpE (t : DTE) : TE := fun σ H Q => ∃ (S : Sit) (τ : DSt) (QD : Sl → Prop), SR K T S τ σ H ∧ t τ QD ∧ ∀ H' v sl, Aft K T S H H' → RepSl K T S H H' sl v → QD sl → Q v H'
def UpT (t : DTT) : TT := fun σ H Q => ∃ (S : Sit) (τ : DSt) (QD : Bool → Prop), SR K T S τ σ H ∧ t τ QD ∧ ∀ H' b, Aft K T S H H' → QD b → Q b H'
def UpA (t : DTA) : TA := fun σ H Q => ∃ (S : Sit) (τ : DSt) (QD : Nat → List D → Prop), SR K T S τ σ H ∧ t τ QD ∧ ∀ H' vs g ds, Aft K T S H H' → RepsG K T S g H' ds vs → QD g ds → Q vs H'
/-- what is handed back: for whoever holds B, M -/
def RepR (B : Option Addr) (M : Addr → Prop) (H0 H' : Hp) (sl : Sl) (v : V) : Prop := match sl with
  | .v _ d => Rep K T B (fun a => M a ∨ B = some a) H' d v
  | .own ds => ∃ p vs, v = .ref p ∧ Nv H0 p ∧ H' p = some (.lst vs) ∧ Reps K T B (fun a => (M a ∨ B = some a) ∨ a = p) H' ds vs
  | .un => False
  | .ins _ _ => False
  | .sto _ => False
def isSc : D → V → Prop
  | .int i, v => v = .int i
  | .bl b, v => v = .bl b
  | .non, v => v = .non
  | .str x, v => v = .str x
  | _, _ => False
/-- the error that flies stands for er -/
def ErR (mg : Str → Option Value) (B : Option Addr) (H : Hp) (er : Er) (cls : Value) (d : Option Addr) : Prop := ∃ (C dx : Addr) (vs : List V), mg er.c = some (.ref C) ∧ cls = .ref C ∧ d = some dx ∧ H dx = some (.xd ((er.fs.map (·.1)).zip vs)) ∧ immAll (er.fs.map (·.2)) = true ∧ Reps K T B (fun _ => True) H (er.fs.map (·.2)) vs
/-- a value next to a frame that stands for a slot: a list of one's own lies already in P -/
def RepM (S : Sit) (τ : DSt) (σ : L2.St) (H : Hp) (sl : Sl) (v : V) : Prop := match sl with
  | .v g d => RepG K T S g H d v
  | .own ds => ∃ p vs, v = .ref p ∧ H p = some (.lst vs) ∧ S.P p ∧ S.B ≠ some p ∧ ¬ S.X p ∧ RepsG K T S 2 H ds vs ∧ (∀ (j : Nat) (es : List D), τ[j]? = some (.own es) → σ[j]? ≠ some (some (.ref p))) ∧ ∀ (j : Nat) (g : SO), τ[j]? = some (.sto g) → g.g p = none
  | .un => False
  | .ins _ _ => False
  | .sto _ => False
theorem RepM.dropG {K : PySem.W.Frag} {T : Tab} {B : Option Addr} {L : LX} {X : Addr → Prop} {H0 : Hp} {M P : Addr → Prop} {G G' : List (Nat × D × V)} {τ : DSt} {σ : L2.St} {H : Hp} {sl : Sl} {v : V} (h : RepM K T ⟨B, L, X, H0, M, P, G⟩ τ σ H sl v) : RepM K T ⟨B, L, X, H0, M, P, G'⟩ τ σ H sl v := by
  have e : ∀ g, gset ⟨B, L, X, H0, M, P, G⟩ g = gset ⟨B, L, X, H0, M, P, G'⟩ g := fun g => by
    match g with
    | 0 => rfl
    | 1 => rfl
    | g + 2 => rfl
  cases sl with
  | v g d => exact (show Rep K T B (gset ⟨B, L, X, H0, M, P, G'⟩ g) H d v by rw [← e]; exact h)
  | own ds => exact h
  | un => exact h
  | ins c ds => exact h
  | sto g => exact h
structure Out (ek : EK) (S : Sit) (DD : DEnds) (D : Ends) : Prop where
  nx : ∀ P' τ' σ' H', SR K T { S with P := P' } τ' σ' H' → DD.nx τ' → D.nx σ' H'
  bk : ∀ P' τ' σ' H', SR K T { S with P := P' } τ' σ' H' → DD.bk τ' → D.bk σ' H'
  ct : ∀ P' τ' σ' H', SR K T { S with P := P' } τ' σ' H' → DD.ct τ' → D.ct σ' H'
  rt : ∀ H' v sl, Kp S.N0 S.H0 H' → BagOk T S.B S.L H' → RepR K T S.B S.M S.H0 H' sl v → DD.rt sl → D.rt v H'
  rb : ∀ P' τ' σ' H' d v, SR K T { S with P := P' } τ' σ' H' → isSc d v → DD.rb τ' d → D.rt v H'
  er : ∀ H' er cls d, Kp S.N0 S.H0 H' → BagOk T S.B S.L H' → ErR K T ek.mg S.B H' er cls d → DD.er er → ek.E cls d H'
  rm : ∀ P' τ' σ' H' v sl, SR K T { S with P := P' } τ' σ' H' → RepM K T { S with P := P' } τ' σ' H' sl v → DD.rm τ' sl → D.rt v H'
  em : ∀ P' τ' σ' H' er cls d, SR K T { S with P := P' } τ' σ' H' → ErR K T ek.mg S.B H' er cls d → DD.em τ' er → ek.E cls d H'
def UpS (ek : EK) (t : DTS) : TS := fun D σ H => ∃ (S : Sit) (τ : DSt) (DD : DEnds), SR K T S τ σ H ∧ t DD τ ∧ Out K T ek S DD D
end
section
variable {K : PySem.W.Frag} {T : Tab} {S : Sit} {τ : DSt} {σ : L2.St} {H H' H1 H2 H3 : Hp}
theorem RepSl.aft (r : SR K T S τ σ H1) {sl : Sl} {v : V} (hb : ∀ a, S.B = some a → Lv H a) (h : RepSl K T S H H1 sl v) (a : Aft K T S H1 H2) : RepSl K T S H H2 sl v := by
  cases sl with
  | v g d => exact r.rep a.kp h
  | own ds =>
    obtain ⟨p, vs, e, h1, h2, h3⟩ := h
    exact ⟨p, vs, e, h1, a.kp.k p _ h2 (fun z => h1 (hb p z)), Reps.kp a.kp (fun c z => .inl (r.gsub 2 c z)) ds vs h3⟩
  | un => exact h
  | ins c ds => exact h
  | sto g => exact h
theorem RepSl.back {sl : Sl} {v : V} (h : RepSl K T S H1 H2 sl v) (a : Aft K T S H H1) : RepSl K T S H H2 sl v := by
  cases sl with
  | v g d => exact h
  | own ds =>
    obtain ⟨p, vs, e, h1, h2, h3⟩ := h
    exact ⟨p, vs, e, fun z => h1 (a.kp.s p z), h2, h3⟩
  | un => exact h
  | ins c ds => exact h
  | sto g => exact h
end

/-- data need nobody's care if they hold no list -/
def up (g : Nat) (d : D) : Nat := match g with
  | 0 => bif d.imm then 2 else 0
  | 1 => bif d.imm then 2 else 1
  | g + 2 => g + 2
def upl (g : Nat) (ds : List D) : Nat := match g with
  | 0 => bif immAll ds then 2 else 0
  | 1 => bif immAll ds then 2 else 1
  | g + 2 => g + 2
@[simp] theorem up_0 (d : D) : up 0 d = bif d.imm then 2 else 0 := rfl
@[simp] theorem up_1 (d : D) : up 1 d = bif d.imm then 2 else 1 := rfl
@[simp] theorem up_2 (d : D) : up 2 d = 2 := rfl
@[simp] theorem upl_0 (d : List D) : upl 0 d = bif immAll d then 2 else 0 := rfl
@[simp] theorem upl_1 (d : List D) : upl 1 d = bif immAll d then 2 else 1 := rfl
@[simp] theorem upl_2 (d : List D) : upl 2 d = 2 := rfl
theorem up_g {g : Nat} {d : D} (hg : g = 1 ∨ g = 2) (h : d.imm = true) : up g d = 2 := by
  rcases hg with rfl | rfl
  · rw [up_1, h]; rfl
  · rfl
theorem RepG.up {K : PySem.W.Frag} {T : Tab} {S : Sit} {g : Nat} {H : Hp} {d : D} {v : V} (h : RepG K T S g H d v) : RepG K T S (DL.up g d) H d v := by
  cases e : d.imm with
  | true => exact Rep.imm d v e h
  | false => match g, h with
    | 0, h => unfold DL.up; simp only [e]; exact h
    | 1, h => unfold DL.up; simp only [e]; exact h
    | g + 2, h => exact h
theorem RepsG.upl {K : PySem.W.Frag} {T : Tab} {S : Sit} {g : Nat} {H : Hp} {d : List D} {v : List V} (h : RepsG K T S g H d v) : RepsG K T S (DL.upl g d) H d v := by
  cases e : immAll d with
  | true => exact Reps.imm d v e h
  | false => match g, h with
    | 0, h => unfold DL.upl; simp only [e]; exact h
    | 1, h => unfold DL.upl; simp only [e]; exact h
    | g + 2, h => exact h

/-! ### names, constants -/
@[simp] def dVar (i : Nat) : DTE := fun τ Q => match τ[i]? with
  | some (.v g d) => Q (.v g d)
  | some (.own ds) => Q (.v 0 (.lst ds))
  | _ => False
@[simp] def dK (d : D) : DTE := fun _ Q => Q (.v 2 d)
section
variable {X : Cx} {T : Tab}
theorem de_var {i : Nat} {x : Str} {pos : Pos} (hN : X.N[i]? = some x) (hv : Vis X.env.scope x) (hd : (x == ("__debug__" : Str)) = false := by decide) (hcd : (x == ("__classdict__" : Str)) = false := by decide) : PE X (.Name x pos) (UpE X.K T (dVar i)) :=
  (pe_var hN hv hd hcd).of fun σ H Q ⟨S, τ, QD, sr, h, k⟩ => by
    unfold dVar at h
    cases e : τ[i]? with
    | none => rw [e] at h; exact h.elim
    | some sl =>
      rw [e] at h
      cases sl with
      | un => exact h.elim
      | ins c ds => exact h.elim
      | sto g => exact h.elim
      | v g d =>
        obtain ⟨_, v, e1, r⟩ := sr.val i g d e
        exact ⟨v, e1, k H v (.v g d) sr.same r h⟩
      | own ds =>
        obtain ⟨p, vs, e1, e2, e3, e4, e5, r⟩ := sr.own i ds e
        exact ⟨.ref p, e1, k H _ (.v 0 (.lst ds)) sr.same ⟨p, vs, rfl, e2, e4, RepsG.le sr (Nat.zero_le 2) r⟩ h⟩
theorem de_none {k : Nat} {pos : Pos} : PE X (.Constant .none k pos) (UpE X.K T (dK .non)) := pe_non.of fun σ H Q ⟨S, τ, QD, sr, h, k⟩ => k H _ (.v 2 .non) sr.same rfl h
theorem de_int {i : Int} {k : Nat} {pos : Pos} : PE X (.Constant (.int i) k pos) (UpE X.K T (dK (.int i))) := pe_int.of fun σ H Q ⟨S, τ, QD, sr, h, k⟩ => k H _ (.v 2 (.int i)) sr.same rfl h
theorem de_str {i : Str} {k : Nat} {pos : Pos} : PE X (.Constant (.str i) k pos) (UpE X.K T (dK (.str i))) := pe_str.of fun σ H Q ⟨S, τ, QD, sr, h, k⟩ => k H _ (.v 2 (.str i)) sr.same rfl h
theorem de_bool {i : Bool} {k : Nat} {pos : Pos} : PE X (.Constant (.bool i) k pos) (UpE X.K T (dK (.bl i))) := pe_bl.of fun σ H Q ⟨S, τ, QD, sr, h, k⟩ => k H _ (.v 2 (.bl i)) sr.same rfl h

/-! ### operators -/
abbrev DF2 := Nat → D → Nat → D → (Sl → Prop) → Prop
@[simp] def dOp (f : DF2) (ta tb : DTE) : DTE := fun τ Q => ta τ fun x => tb τ fun y => f x.g x.d y.g y.d Q
def R2D (K : PySem.W.Frag) (T : Tab) (r : R2) (f : DF2) : Prop := ∀ (S : Sit) (τ : DSt) (σ : L2.St) (H : Hp) (g : Nat) (d : D) (g' : Nat) (d' : D) (v u : V) (QD : Sl → Prop) (Q : VK), SR K T S τ σ H → RepG K T S g H d v → RepG K T S g' H d' u → f g d g' d' QD →
  (∀ H' w sl, Aft K T S H H' → RepSl K T S H H' sl w → QD sl → Q w H') → r v u H Q
theorem up_op {r : R2} {f : DF2} {ta tb : DTE} (hr : R2D X.K T r f) {σ : L2.St} {H : Hp} {Q : VK} (h : UpE X.K T (dOp f ta tb) σ H Q) : tOp r (UpE X.K T ta) (UpE X.K T tb) σ H Q := by
  obtain ⟨S, τ, QD, sr, h, k⟩ := h
  refine ⟨S, τ, _, sr, h, fun H1 v x a1 r1 q1 => ⟨S, τ, _, sr.aft a1, q1, fun H2 u y a2 r2 q2 => ?_⟩⟩
  have s1 := sr.aft a1
  have s2 := s1.aft a2
  exact hr S τ σ H2 _ _ _ _ v u _ Q s2 (s1.rep a2.kp (r1.g sr)) (r2.g s1) q2 fun H' w sl a3 r3 q3 => k H' w sl (a1.trans (a2.trans a3)) (r3.back (a1.trans a2)) q3
theorem de_op {op : Operator} {a b : Expr} {pos : Pos} {r : R2} {f : DF2} {ta tb : DTE} (ho : OpR X (binaryOp op) r) (hr : R2D X.K T r f) (ha : PE X a (UpE X.K T ta)) (hb : PE X b (UpE X.K T tb)) : PE X (.BinOp a op b pos) (UpE X.K T (dOp f ta tb)) :=
  (pe_op ho ha hb).of fun _ _ _ h => up_op hr h
theorem de_cmp {op : CmpOp} {a b : Expr} {pos : Pos} {r : R2} {f : DF2} {ta tb : DTE} (ho : OpR X (compareOp op) r) (hr : R2D X.K T r f) (ha : PE X a (UpE X.K T ta)) (hb : PE X b (UpE X.K T tb)) (hm : behindInMarks op b = false) : PE X (.Compare a [op] [b] pos) (UpE X.K T (dOp f ta tb)) :=
  (pe_cmpR ho ha hb hm).of fun _ _ _ h => up_op hr h
theorem de_ix {a b : Expr} {pos : Pos} {r : R2} {f : DF2} {ta tb : DTE} (ho : IxR X r) (hr : R2D X.K T r f) (ha : PE X a (UpE X.K T ta)) (hb : PE X b (UpE X.K T tb)) (hs : PlainIx b) : PE X (.Subscript a b pos) (UpE X.K T (dOp f ta tb)) :=
  (pe_ix ho ha hb hs).of fun _ _ _ h => up_op hr h
theorem R2D.or {K : PySem.W.Frag} {r r' : R2} {f f' f'' : DF2} (h : R2D K T r f) (h' : R2D K T r' f') (w : ∀ g d g' d' Q, f'' g d g' d' Q → f g d g' d' Q ∨ f' g d g' d' Q) : R2D K T (fun x y H Q => r x y H Q ∨ r' x y H Q) f'' := by
  intro S τ σ H g d g' d' v u QD Q sr r1 r2 q k
  rcases w _ _ _ _ _ q with q | q
  · exact .inl (h S τ σ H g d g' d' v u QD Q sr r1 r2 q k)
  · exact .inr (h' S τ σ H g d g' d' v u QD Q sr r1 r2 q k)
/-- two ints, an answer -/
@[simp] def fI (C : Int → Int → Prop) (f : Int → Int → D) : DF2 := fun _ d _ d' Q => match d, d' with
  | .int i, .int j => C i j ∧ Q (.v 2 (f i j))
  | _, _ => False
@[simp] def fI0 (f : Int → Int → D) : DF2 := fun _ d _ d' Q => match d, d' with
  | .int i, .int j => Q (.v 2 (f i j))
  | _, _ => False
theorem isSc.rep {K : PySem.W.Frag} {B : Option Addr} {M : Addr → Prop} {H : Hp} {d : D} {v : V} (h : isSc d v) : Rep K T B M H d v := by
  cases d <;> first | exact h | exact h.elim
theorem r2_I {K : PySem.W.Frag} {C : Int → Int → Prop} {f : Int → Int → D} {g : Int → Int → V} (hs : ∀ i j, isSc (f i j) (g i j)) : R2D K T (rI C g) (fI C f) := by
  intro S τ σ H g1 d g2 d' v u QD Q sr r1 r2 q k
  unfold fI at q
  split at q
  · rename_i i j
    obtain ⟨c, q⟩ := q
    exact ⟨i, j, r1, r2, c, k H _ (.v 2 (f i j)) sr.same (isSc.rep (hs i j)) q⟩
  · exact q.elim
theorem r2_I0 {K : PySem.W.Frag} {f : Int → Int → D} {g : Int → Int → V} (hs : ∀ i j, isSc (f i j) (g i j)) : R2D K T (rI0 g) (fI0 f) := by
  intro S τ σ H g1 d g2 d' v u QD Q sr r1 r2 q k
  unfold fI0 at q
  split at q
  · rename_i i j
    exact ⟨i, j, r1, r2, k H _ (.v 2 (f i j)) sr.same (isSc.rep (hs i j)) q⟩
  · exact q.elim
end

/-! ### statements -/
section
variable {X : Cx} {T : Tab} {ek : EK} {st : Stmt} {rest : List Stmt} {t u : DTS} {e : Expr} {te : DTE} {pos : Pos}
@[simp] def dSeq (t u : DTS) : DTS := fun D τ => t { D with nx := u D } τ
@[simp] def dNext : DTS := fun D τ => D.nx τ
theorem Out.then {K : PySem.W.Frag} {ek : EK} {S : Sit} {DD : DEnds} {D : Ends} {u : DTS} (o : Out K T ek S DD D) : Out K T ek S { DD with nx := u DD } { D with nx := UpS K T ek u D } :=
  ⟨fun P' τ' σ' H' sr q => ⟨{ S with P := P' }, τ', DD, sr, q, ⟨fun P2 => o.nx P2, fun P2 => o.bk P2, fun P2 => o.ct P2, fun H2 v sl a b => o.rt H2 v sl a b, fun P2 => o.rb P2, o.er, fun P2 => o.rm P2, fun P2 => o.em P2⟩⟩, o.bk, o.ct, o.rt, o.rb, o.er, o.rm, o.em⟩
theorem ds_nil : PSs X [] (UpS X.K T ek dNext) := pss_nil.of fun D σ H ⟨S, τ, DD, sr, h, o⟩ => o.nx S.P τ σ H sr h
theorem ds_cons (h1 : PS X st (UpS X.K T ek t)) (h2 : PSs X rest (UpS X.K T ek u)) : PSs X (st :: rest) (UpS X.K T ek (dSeq t u)) :=
  (pss_cons h1 h2).of fun D σ H ⟨S, τ, DD, sr, h, o⟩ => ⟨S, τ, _, sr, h, o.then⟩
theorem ds_one (h1 : PS X st (UpS X.K T ek t)) : PSs X [st] (UpS X.K T ek t) := pss_one h1
@[simp] def dBrk : DTS := fun D τ => D.bk τ
@[simp] def dCont : DTS := fun D τ => D.ct τ
/-- handed back: data that nobody changes -/
@[simp] def sto : Sl → Bool
  | .v g d => Nat.ble 2 g || d.imm
  | .own _ => true
  | _ => false
@[simp] def out : Sl → Sl
  | .v _ d => .v 2 d
  | s => s
theorem RepSl.out {K : PySem.W.Frag} {S : Sit} {τ : DSt} {σ : L2.St} {H H1 : Hp} {sl : Sl} {v : V} (sr : SR K T S τ σ H) (r : RepSl K T S H H1 sl v) (h : sto sl = true) : RepR K T S.B S.M S.H0 H1 (out sl) v := by
  have sub : ∀ a, (S.M a ∨ S.B = some a) → gset S 2 a := fun a z => z.elim .inr fun z => .inl (sr.bp a z)
  cases sl with
  | v g d =>
    have h1 : (Nat.ble 2 g || d.imm) = true := h
    rcases Bool.or_eq_true_iff.mp h1 with h2 | h2
    · match g, h2, r with
      | g + 2, _, r => exact Rep.anti sub d v r
    · exact Rep.imm d v h2 r
  | own ds =>
    obtain ⟨p, vs, e, h1, h2, h3⟩ := r
    exact ⟨p, vs, e, sr.new0 h1, h2, Reps.anti (fun a z => z.elim (fun z => .inl (sub a z)) .inr) ds vs h3⟩
  | un => exact r
  | ins c ds => exact r
  | sto g => exact r
@[simp] def dRet (te : DTE) : DTS := fun D τ => te τ fun sl => sto sl = true ∧ D.rt (out sl)
theorem ds_ret (he : PE X e (UpE X.K T te)) : PS X (.Return (some e) pos) (UpS X.K T ek (dRet te)) :=
  (ps_ret he).of fun D σ H ⟨S, τ, DD, sr, h, o⟩ => ⟨S, τ, _, sr, h, fun H1 v sl a r ⟨q1, q2⟩ => o.rt H1 v (out sl) (sr.aft a).kp a.bag (r.out sr q1) q2⟩
@[simp] def dRetN : DTS := fun D _ => D.rt (.v 2 .non)
/-- return of a list of one's own -/
@[simp] def dRetOwn (i : Nat) : DTS := fun D τ => match τ[i]? with
  | some (.own ds) => D.rt (.own ds)
  | _ => False
theorem ds_retOwn {i : Nat} {x : Str} {p : Pos} (hN : X.N[i]? = some x) (hv : Vis X.env.scope x) (hd : (x == ("__debug__" : Str)) = false := by decide) (hcd : (x == ("__classdict__" : Str)) = false := by decide) :
    PS X (.Return (some (.Name x p)) pos) (UpS X.K T ek (dRetOwn i)) :=
  (ps_ret (pe_var hN hv hd hcd)).of fun D σ H ⟨S, τ, DD, sr, h, o⟩ => by
    unfold dRetOwn at h
    cases e : τ[i]? with
    | none => rw [e] at h; exact h.elim
    | some sl =>
      rw [e] at h
      cases sl with
      | un => exact h.elim
      | v g d => exact h.elim
      | ins c ds => exact h.elim
      | sto g => exact h.elim
      | own ds =>
        obtain ⟨p, vs, e1, e2, e3, e4, e5, r⟩ := sr.own i ds e
        exact ⟨.ref p, e1, o.rt H _ (.own ds) sr.kp sr.bag ⟨p, vs, rfl, sr.fr p e3 e4 e5, e2, Reps.anti (fun a z => z.elim (fun z => z.elim .inr fun z => .inl (sr.bp a z)) fun z => .inl (by rw [z]; exact e3)) ds vs r⟩ h⟩
/-- return of a value like a number, with all that stands then -/
@[simp] def dRetB (te : DTE) : DTS := fun D τ => te τ fun sl => match sl.d with
  | .int i => D.rb τ (.int i)
  | _ => False
theorem ds_retB (he : PE X e (UpE X.K T te)) : PS X (.Return (some e) pos) (UpS X.K T ek (dRetB te)) :=
  (ps_ret he).of fun D σ H ⟨S, τ, DD, sr, h, o⟩ => ⟨S, τ, _, sr, h, fun H1 v sl a r q => by
    have rg := r.g sr
    cases sd : sl.d with
    | int i =>
      rw [sd] at q rg
      obtain rfl : v = .int i := rg
      exact o.rb S.P _ _ _ (.int i) _ (sr.aft a) rfl q
    | _ => rw [sd] at q; exact (show False from q).elim⟩
@[simp] def dDrop (te : DTE) : DTS := fun D τ => te τ fun _ => D.nx τ
@[simp] def dIf (c : DTT) (t u : DTS) : DTS := fun D τ => c τ fun b => if b = true then t D τ else u D τ
theorem ds_if {c : Expr} {a b : List Stmt} {tc : DTT} (hc : PT X c (UpT X.K T tc)) (ha : PSs X a (UpS X.K T ek t)) (hb : PSs X b (UpS X.K T ek u)) : PS X (.If c a b pos) (UpS X.K T ek (dIf tc t u)) :=
  (ps_if hc ha hb).of fun D σ H ⟨S, τ, DD, sr, h, o⟩ => ⟨S, τ, _, sr, h, fun H1 b a q => by
    cases b with
    | true => exact ⟨S, τ, DD, sr.aft a, q, o⟩
    | false => exact ⟨S, τ, DD, sr.aft a, q, o⟩⟩
/-- a name's slot set -/
theorem SR.setV {K : PySem.W.Frag} {S : Sit} {τ : DSt} {σ : L2.St} {H : Hp} {i g : Nat} {d : D} {v : V} (sr : SR K T S τ σ H) (hg : 1 ≤ g) (r : RepG K T S g H d v) : SR K T S (τ.set i (.v g d)) (σ.set i (some v)) H where
  len := by rw [List.length_set, List.length_set]; exact sr.len
  bp := sr.bp
  al := sr.al
  ml := sr.ml
  kp := sr.kp
  xp := sr.xp
  fr := sr.fr
  bl := sr.bl
  bag := sr.bag
  lp := sr.lp
  val := fun j g' d' e => by
    by_cases hj : i = j
    · subst hj
      have hi : i < τ.length := by
        rw [← List.length_set]
        exact (List.getElem?_eq_some_iff.mp e).1
      rw [List.getElem?_set_self hi] at e
      cases e
      exact ⟨hg, v, List.getElem?_set_self (by rw [← sr.len]; exact hi), r⟩
    · rw [List.getElem?_set_ne hj] at e
      obtain ⟨h1, w, e1, h⟩ := sr.val j g' d' e
      exact ⟨h1, w, by rw [List.getElem?_set_ne hj]; exact e1, h⟩
  own := fun j ds e => by
    by_cases hj : i = j
    · subst hj
      have hi : i < τ.length := by
        rw [← List.length_set]
        exact (List.getElem?_eq_some_iff.mp e).1
      rw [List.getElem?_set_self hi] at e
      cases e
    · rw [List.getElem?_set_ne hj] at e
      obtain ⟨p, vs, e1, h⟩ := sr.own j ds e
      exact ⟨p, vs, by rw [List.getElem?_set_ne hj]; exact e1, h⟩
  ins := fun j c ds e => by
    by_cases hj : i = j
    · subst hj
      have hi : i < τ.length := by
        rw [← List.length_set]
        exact (List.getElem?_eq_some_iff.mp e).1
      rw [List.getElem?_set_self hi] at e
      cases e
    · rw [List.getElem?_set_ne hj] at e
      obtain ⟨z, p, dx, vs, e1, h⟩ := sr.ins j c ds e
      exact ⟨z, p, dx, vs, by rw [List.getElem?_set_ne hj]; exact e1, h⟩
  gh := sr.gh
  inj := fun a b ds es p e1 e2 e3 e4 => by
    have ne : ∀ (j : Nat) (ds : List D), (τ.set i (.v g d))[j]? = some (.own ds) → i ≠ j := fun j ds e q => by
      subst q
      have hi : i < τ.length := by
        rw [← List.length_set]
        exact (List.getElem?_eq_some_iff.mp e).1
      rw [List.getElem?_set_self hi] at e
      cases e
    have na := ne a ds e1
    have nb := ne b es e2
    rw [List.getElem?_set_ne na] at e1 e3
    rw [List.getElem?_set_ne nb] at e2 e4
    exact sr.inj a b ds es p e1 e2 e3 e4
  st := fun j x e => (sr.st j x (set_sto (fun _ z => by cases z) e)).set fun _ _ _ z => by rcases z with ⟨_, z⟩ | ⟨_, _, z⟩ <;> cases z
  su := fun j k x y e1 e2 => sr.su j k x y (set_sto (fun _ z => by cases z) e1) (set_sto (fun _ z => by cases z) e2)
/-- .. to a new list of one's own -/
theorem SR.setO {K : PySem.W.Frag} {S : Sit} {τ : DSt} {σ : L2.St} {H H1 : Hp} {i : Nat} {ds : List D} {p : Addr} {vs : List V} (sr : SR K T S τ σ H) (a : Aft K T S H H1) (hp : Nv H p) (h1 : H1 p = some (.lst vs)) (r : Reps K T S.B (fun a => gset S 2 a ∨ a = p) H1 ds vs) :
    SR K T { S with P := fun a => S.P a ∨ a = p } (τ.set i (.own ds)) (σ.set i (some (.ref p))) H1 := by
  have np : ¬ S.P p := sr.newP hp
  have nm : ¬ S.M p := sr.newM hp
  have nb : S.B ≠ some p := fun z => np (sr.bp p z)
  have s1 := sr.aft a
  have gg : ∀ (g : Nat) (d : D) (v : V), 1 ≤ g → RepG K T S g H d v → Rep K T S.B (gset { S with P := fun a => S.P a ∨ a = p } g) H1 d v := fun g d v hg q => by
    have q2 := Rep.kp a.kp (fun c z => .inl (sr.gsub g c z)) d v (Rep.new hp d v q)
    refine Rep.anti (fun c z => ?_) d v q2
    match g, hg, z with
    | 1, _, z => exact z
    | _ + 2, _, z => exact Or.elim z (fun z => Or.elim z (fun z => .inl (.inl z)) .inr) fun z => .inl (.inr z)
  have ggs : ∀ (ds : List D) (vs : List V), RepsG K T S 2 H ds vs → Reps K T S.B (gset { S with P := fun a => S.P a ∨ a = p } 2) H1 ds vs := fun ds vs q => by
    have q2 := Reps.kp a.kp (fun c z => .inl (sr.gsub 2 c z)) ds vs (Reps.new hp ds vs q)
    exact Reps.anti (fun c z => Or.elim z (fun z => Or.elim z (fun z => .inl (.inl z)) .inr) fun z => .inl (.inr z)) ds vs q2
  have at_ : ∀ {s : Sl}, (τ.set i (.own ds))[i]? = some s → i < τ.length ∧ s = .own ds := fun {s} e => by
    have hi : i < τ.length := by
      rw [← List.length_set]
      exact (List.getElem?_eq_some_iff.mp e).1
    rw [List.getElem?_set_self hi] at e
    exact ⟨hi, (Option.some.inj e).symm⟩
  have old : ∀ (j : Nat) (es : List D) (q : Addr), i ≠ j → (τ.set i (.own ds))[j]? = some (.own es) → (σ.set i (some (.ref p)))[j]? = some (some (.ref q)) → q ≠ p := fun j es q hj e e3 z => by
    rw [List.getElem?_set_ne hj] at e e3
    obtain ⟨q', ws, e1, e2, _⟩ := sr.own j es e
    rw [e1] at e3
    cases e3
    exact hp (Lv.of (z ▸ e2))
  have nx : ¬ S.X p := fun z => np (sr.xp p z).1
  refine ⟨by rw [List.length_set, List.length_set]; exact sr.len, fun c z => .inl (sr.bp c z), fun c z => ?_, sr.ml, s1.kp, fun c z => ⟨.inl (sr.xp c z).1, (sr.xp c z).2⟩, fun c z q q' => ?_, sr.bl, a.bag, fun b e z => ?_, fun j g d e => ?_, fun j es e => ?_, fun j c es e => ?_, fun x hx => ⟨(sr.gh x hx).1, gg _ _ _ (sr.gh x hx).1 (sr.gh x hx).2⟩, fun j k ds' es' q e1 e2 e3 e4 => ?_, fun j x e => ?_, fun j k x y e1 e2 => sr.su j k x y (set_sto (fun _ z => by cases z) e1) (set_sto (fun _ z => by cases z) e2)⟩
  · rcases z with z | z
    · exact s1.al c z
    · rw [z]; exact Lv.of h1
  · rcases z with z | z
    · exact sr.fr c z q q'
    · rw [z]; exact sr.new0 hp
  · rcases z with z | z
    · exact sr.lp b e z
    · obtain ⟨_, ns, _, _, _, _, _, h2, _⟩ := sr.bag.bg b e
      exact hp (Lv.of (z ▸ h2))
  · by_cases hj : i = j
    · subst hj
      have := (at_ e).2
      cases this
    · rw [List.getElem?_set_ne hj] at e
      obtain ⟨hg, v, e1, h⟩ := sr.val j g d e
      exact ⟨hg, v, by rw [List.getElem?_set_ne hj]; exact e1, gg g d v hg h⟩
  · by_cases hj : i = j
    · subst hj
      obtain ⟨hi, e⟩ := at_ e
      cases e
      refine ⟨p, vs, List.getElem?_set_self (by rw [← sr.len]; exact hi), h1, .inr rfl, nb, nx, Reps.anti (fun c z => ?_) ds vs r⟩
      exact Or.elim z (fun z => Or.elim z (fun z => .inl (.inl z)) .inr) fun z => .inl (.inr z)
    · rw [List.getElem?_set_ne hj] at e
      obtain ⟨q, ws, e1, e2, e3, e4, e5, h⟩ := sr.own j es e
      exact ⟨q, ws, by rw [List.getElem?_set_ne hj]; exact e1, a.kp.k q _ e2 e4, .inl e3, e4, e5, ggs es ws h⟩
  · by_cases hj : i = j
    · subst hj
      have := (at_ e).2
      cases this
    · rw [List.getElem?_set_ne hj] at e
      obtain ⟨z, q, dx, ws, e1, e2, e3, h⟩ := sr.ins j c es e
      exact ⟨z, q, dx, ws, by rw [List.getElem?_set_ne hj]; exact e1, a.kp.k q _ e2 (sr.xp q e3).2 insO_noT, e3, ggs es ws h⟩
  · by_cases hj : i = j
    · by_cases hk : i = k
      · rw [← hj, ← hk]
      · subst hj
        have hi := (at_ e1).1
        rw [List.getElem?_set_self (by rw [← sr.len]; exact hi)] at e3
        cases e3
        exact absurd rfl (old k es' p hk e2 e4)
    · by_cases hk : i = k
      · subst hk
        have hi := (at_ e2).1
        rw [List.getElem?_set_self (by rw [← sr.len]; exact hi)] at e4
        cases e4
        exact absurd rfl (old j ds' p hj e1 e3)
      · rw [List.getElem?_set_ne hj] at e1 e3
        rw [List.getElem?_set_ne hk] at e2 e4
        exact sr.inj j k ds' es' q e1 e2 e3 e4
  · have so := sr.st j x (set_sto (fun _ z => by cases z) e)
    refine (so.sit (S' := { S with P := fun a => S.P a ∨ a = p }) rfl (fun _ _ _ z => .inl z) fun c o m z => z.to (a.kp.same z.lv (so.rep c o m).2.1) (fun ds vs => ggs ds vs) fun b xs => sqT_kp a.kp).set fun c o m _ z => ?_
    cases z
    exact hp (so.rep p o m).2.2.lv
end
end DL
/-! DL3: displays, places, slices, sums of lists, lengths, calls; stores, loops. -/
namespace DL
open PySem PySem.Spec PyProof.Rows L2
theorem lim_le {n : Nat} (h : Nat.ble n 1000000 = true) : n ≤ sizeLine := Nat.le_trans (Nat.le_of_ble_eq_true h) (by rw [sizeLine_eq]; decide)
theorem lim_le' {n : Nat} (h : n ≤ 1000000) : n ≤ sizeLine := Nat.le_trans h (by rw [sizeLine_eq]; decide)
/-- a new list -/
@[simp] def mkL (g : Nat) (ds : List D) : Sl := match g with
  | 0 => .v 0 (.lst ds)
  | 1 => .v 1 (.lst ds)
  | _ + 2 => .own ds
theorem RepSl.mkL {K : PySem.W.Frag} {T : Tab} {S : Sit} {τ : DSt} {σ : L2.St} {H H' : Hp} {p : Addr} {g : Nat} {ds : List D} {vs : List V} (sr : SR K T S τ σ H) (hp : H p = none) (e : H' p = some (.lst vs)) (k : Kp (fun _ => False) H H') (r : RepsG K T S g H ds vs) : RepSl K T S H H' (DL.mkL g ds) (.ref p) := by
  have r1 : Reps K T S.B (fun a => gset S g a ∨ a = p) H' ds vs := Reps.kp k (fun _ z => z.elim) ds vs (Reps.new (nl hp) ds vs r)
  match g, r1, sr.newG (nl hp) g with
  | 0, r1, n => exact ⟨p, vs, rfl, e, n, Reps.anti (fun _ z => .inl z) ds vs r1⟩
  | 1, r1, n => exact ⟨p, vs, rfl, e, n, Reps.anti (fun _ z => .inl z) ds vs r1⟩
  | g + 2, r1, n => exact ⟨p, vs, rfl, nl hp, e, r1⟩
/-! ### arguments, displays -/
@[simp] def aNil : DTA := fun _ Q => Q 2 []
@[simp] def aCons (te : DTE) (tr : DTA) : DTA := fun τ Q => te τ fun s => tr τ fun g ds => Q (min (up s.g s.d) g) (s.d :: ds)
@[simp] def dTup (ta : DTA) : DTE := fun τ Q => ta τ fun g ds => match Nat.ble ds.length 1000000 with
  | true => Q (.v g (.tup ds))
  | false => False
@[simp] def dLst (ta : DTA) : DTE := fun τ Q => ta τ fun g ds => match Nat.ble ds.length 1000000 with
  | true => Q (mkL g ds)
  | false => False
section
variable {X : Cx} {T : Tab} {e : Expr} {es : List Expr} {te : DTE} {t : DTA} {pos : Pos}
theorem da_nil : PA X [] (UpA X.K T aNil) := pa_nil.of fun σ H Q ⟨S, τ, QD, sr, h, k⟩ => k H [] 2 [] sr.same rfl h
theorem da_cons (ha : PE X e (UpE X.K T te)) (hr : PA X es (UpA X.K T t)) (hs : starEach (e :: es) X.env = (false, eval e X.env) :: starEach es X.env := by rfl) : PA X (e :: es) (UpA X.K T (aCons te t)) :=
  (pa_cons ha hr hs).of fun σ H Q ⟨S, τ, QD, sr, h, k⟩ => ⟨S, τ, _, sr, h, fun H1 v x a1 r1 q1 => ⟨S, τ, _, sr.aft a1, q1, fun H2 vs g ds a2 r2 q2 => by
    have s1 := sr.aft a1
    have s2 := s1.aft a2
    refine k H2 (v :: vs) _ (x.d :: ds) (a1.trans a2) ⟨v, vs, rfl, ?_, ?_⟩ q2
    · exact RepG.le s2 (Nat.min_le_left _ _) (s1.rep a2.kp (RepG.up (r1.g sr)))
    · exact RepsG.le s2 (Nat.min_le_right _ _) r2⟩⟩
theorem de_tup {k1} (h : PA X es (UpA X.K T t)) : PE X (.Tuple es k1 pos) (UpE X.K T (dTup t)) :=
  (pe_tup h).of fun σ H Q ⟨S, τ, QD, sr, h, k⟩ => ⟨S, τ, _, sr, h, fun H1 vs g ds a r q => by
    have s1 := sr.aft a
    split at q
    · rename_i hb
      refine ⟨by rw [r.len]; exact lim_le hb, fun p hp => ?_⟩
      have a2 : Aft X.K T S H1 (upd H1 p (.tup vs)) := s1.laid hp
      exact k _ _ (.v g (.tup ds)) (a.trans a2) ⟨p, vs, rfl, SqT.of upd_same, s1.reps a2.kp r⟩ q
    · exact q.elim⟩
theorem de_lst (h : PA X es (UpA X.K T t)) : PE X (.List es pos) (UpE X.K T (dLst t)) :=
  (pe_lst h).of fun σ H Q ⟨S, τ, QD, sr, h, k⟩ => ⟨S, τ, _, sr, h, fun H1 vs g ds a r q => by
    have s1 := sr.aft a
    split at q
    · rename_i hb
      refine ⟨by rw [r.len]; exact lim_le hb, fun p hp => ?_⟩
      have a2 : Aft X.K T S H1 (upd H1 p (.lst vs)) := s1.laid hp
      exact k _ _ (mkL g ds) (a.trans a2) ((RepSl.mkL s1 hp upd_same (Kp.laid hp) r).back a) q
    · exact q.elim⟩
end

/-! ### places -/
def elems : D → Option (List D)
  | .lst ds => some ds
  | .tup ds => some ds
  | _ => none
@[simp] theorem elems_l (ds : List D) : elems (.lst ds) = some ds := rfl
@[simp] theorem elems_t (ds : List D) : elems (.tup ds) = some ds := rfl
@[simp] def fIx : DF2 := fun g d _ i Q => match elems d, i with
  | some ds, .int i => match atI ds i with
    | some x => Q (.v (up g x) x)
    | none => False
  | _, _ => False
@[simp] def dIxK (k : Nat) (te : DTE) : DTE := fun τ Q => te τ fun s => match elems s.d with
  | some ds => match ds[k]? with
    | some x => Q (.v (up s.g x) x)
    | none => False
  | none => False
@[simp] def dIxL (te : DTE) : DTE := fun τ Q => te τ fun s => match elems s.d with
  | some ds => match ds.getLast? with
    | some x => Q (.v (up s.g x) x)
    | none => False
  | none => False
theorem Reps.atI {K : PySem.W.Frag} {T : Tab} {B : Option Addr} {M : Addr → Prop} {H : Hp} {ds : List D} {vs : List V} {i : Int} {d : D} (r : Reps K T B M H ds vs) (h : L2.atI ds i = some d) : ∃ v, L2.atI vs i = some v ∧ Rep K T B M H d v := by
  unfold L2.atI at h ⊢
  rw [r.len]
  cases e : ixN ds.length i with
  | none => rw [e] at h; cases h
  | some j =>
    rw [e] at h
    exact r.get h
theorem r2_ix {K : PySem.W.Frag} {T : Tab} : R2D K T (fun x y H Q => rIxL K x y H Q ∨ rIxT K x y H Q) fIx := by
  intro S τ σ H g d g' d' v u QD Q sr r1 r2 q k
  unfold fIx at q
  cases d with
  | lst ds =>
    obtain ⟨a, vs, rfl, e, m, r⟩ := r1
    cases d' with
    | int i =>
      have q : (match L2.atI ds i with | some x => QD (.v (up g x) x) | none => False) := q
      cases ei : L2.atI ds i with
      | none => rw [ei] at q; exact q.elim
      | some x =>
        rw [ei] at q
        obtain ⟨w, e1, e2⟩ := Reps.atI r ei
        exact .inl ⟨a, vs, i, w, rfl, r2, SqL.of e, e1, k H w (.v (up g x) x) sr.same (RepG.up e2) q⟩
    | _ => exact q.elim
  | tup ds =>
    obtain ⟨a, vs, rfl, e, r⟩ := r1
    cases d' with
    | int i =>
      have q : (match L2.atI ds i with | some x => QD (.v (up g x) x) | none => False) := q
      cases ei : L2.atI ds i with
      | none => rw [ei] at q; exact q.elim
      | some x =>
        rw [ei] at q
        obtain ⟨w, e1, e2⟩ := Reps.atI r ei
        exact .inr ⟨a, vs, i, w, rfl, r2, e, e1, k H w (.v (up g x) x) sr.same (RepG.up e2) q⟩
    | _ => exact q.elim
  | _ => cases d' <;> exact q.elim
theorem atI_k {α : Type} (ds : List α) (k : Nat) : L2.atI ds (k : Int) = ds[k]? := by
  cases e : ds[k]? with
  | some x => exact atI_nat e
  | none =>
    unfold L2.atI ixN
    have h : ds.length ≤ k := List.getElem?_eq_none_iff.mp e
    rw [if_pos (by omega), if_neg (by omega)]
    rfl
theorem atI_l {α : Type} (ds : List α) : L2.atI ds (-1) = ds.getLast? := by
  unfold L2.atI ixN
  rw [if_neg (by decide)]
  cases ds with
  | nil => rfl
  | cons d r =>
    rw [if_pos (by rw [List.length_cons]; omega)]
    show (d :: r)[(-1 + (((d :: r).length : Nat) : Int)).toNat]? = _
    rw [List.getLast?_eq_getElem?]
    congr 1
    rw [List.length_cons]; omega
section
variable {X : Cx} {T : Tab} {a b : Expr} {ta tb : DTE} {pos : Pos}
theorem de_ixE (ha : PE X a (UpE X.K T ta)) (hb : PE X b (UpE X.K T tb)) (hs : PlainIx b) : PE X (.Subscript a b pos) (UpE X.K T (dOp fIx ta tb)) := de_ix (ix_list.or ix_tup) r2_ix ha hb hs
theorem UpE.imp {K : PySem.W.Frag} {t t' : DTE} (h : ∀ τ Q, t' τ Q → t τ Q) : ∀ σ H Q, UpE K T t' σ H Q → UpE K T t σ H Q := fun σ H Q ⟨S, τ, QD, sr, q, k⟩ => ⟨S, τ, QD, sr, h τ QD q, k⟩
theorem de_ixK {i : Int} {k : Nat} {k1 : Nat} {p1 : Pos} (hi : i = (k : Int)) (ha : PE X a (UpE X.K T ta)) (hs : PlainIx (.Constant (.int i) k1 p1) := by exact fun _ _ => rfl) : PE X (.Subscript a (.Constant (.int i) k1 p1) pos) (UpE X.K T (dIxK k ta)) :=
  (de_ixE ha de_int hs).of (UpE.imp fun τ Q h => by
    subst hi
    unfold dIxK at h
    have e : (fun s : Sl => (match elems s.d with | some ds => (match ds[k]? with | some x => Q (.v (up s.g x) x) | none => False) | none => False)) = fun s : Sl => fIx s.g s.d 2 (.int (k : Int)) Q := by
      funext s
      unfold fIx
      cases elems s.d with
      | none => rfl
      | some ds =>
        show _ = (match L2.atI ds (k : Int) with | some x => Q (.v (up s.g x) x) | none => False)
        rw [atI_k] <;> rfl
    rw [e] at h
    exact h)
theorem de_neg (ha : PE X a (UpE X.K T ta)) : PE X (.UnaryOp .USub a pos) (UpE X.K T (fun τ Q => ta τ fun s => match s.d with | .int i => Q (.v 2 (.int (-i))) | _ => False)) :=
  (pe_un un_neg ha).of fun σ H Q ⟨S, τ, QD, sr, h, k⟩ => ⟨S, τ, _, sr, h, fun H1 v x a1 r1 q1 => by
    have r := r1.g sr
    split at q1
    · rename_i i e
      rw [e] at r
      exact ⟨i, r, k H1 _ (.v 2 (.int (-i))) a1 rfl q1⟩
    · exact q1.elim⟩
theorem de_ixL {k1 : Nat} {p1 p2 : Pos} (ha : PE X a (UpE X.K T ta)) (hs : PlainIx (.UnaryOp .USub (.Constant (.int 1) k1 p1) p2) := by exact fun _ _ => rfl) : PE X (.Subscript a (.UnaryOp .USub (.Constant (.int 1) k1 p1) p2) pos) (UpE X.K T (dIxL ta)) :=
  (de_ixE ha (de_neg de_int) hs).of (UpE.imp fun τ Q h => by
    unfold dIxL at h
    have e : (fun s : Sl => (match elems s.d with | some ds => (match ds.getLast? with | some x => Q (.v (up s.g x) x) | none => False) | none => False)) = fun s : Sl => fIx s.g s.d 2 (.int (-1)) Q := by
      funext s
      unfold fIx
      cases elems s.d with
      | none => rfl
      | some ds =>
        show _ = (match L2.atI ds (-1) with | some x => Q (.v (up s.g x) x) | none => False)
        rw [atI_l] <;> rfl
    rw [e] at h
    exact h)
end

/-! ### slices -/
def cutG {α : Type} (xs : List α) (lo hi : Option Int) : List α := (xs.drop (HT.sIx xs.length 0 lo)).take (HT.sIx xs.length xs.length hi - HT.sIx xs.length 0 lo)
abbrev DTO := DSt → (Option Int → Prop) → Prop
@[simp] def oNone : DTO := fun _ Q => Q none
@[simp] def oSome (te : DTE) : DTO := fun τ Q => te τ fun s => match s.d with
  | .int i => Q (some i)
  | _ => False
@[simp] def dSl (te : DTE) (tl th : DTO) : DTE := fun τ Q => te τ fun s => tl τ fun l => th τ fun h => match s.d with
  | .lst ds => Q (mkL (upl s.g (cutG ds l h)) (cutG ds l h))
  | .tup ds => Q (.v (upl s.g (cutG ds l h)) (.tup (cutG ds l h)))
  | .scr ns => Q (mkL 2 (cutG (ns.map D.int) l h))
  | .str z => z.length ≤ 10000000 ∧ Q (.v 2 (.str (Txt.slice z l h)))
  | _ => False
def UpO (K : PySem.W.Frag) (T : Tab) (t : DTO) : TO := fun σ H Q => ∃ (S : Sit) (τ : DSt) (QD : Option Int → Prop), SR K T S τ σ H ∧ t τ QD ∧ ∀ H' o, Aft K T S H H' → QD o → Q o H'
theorem reps_ints {K : PySem.W.Frag} {T : Tab} {B : Option Addr} {M : Addr → Prop} {H : Hp} : ∀ {ns : List Int}, Reps K T B M H (ns.map D.int) (ns.map V.int)
  | [] => rfl
  | n :: ns => ⟨.int n, ns.map V.int, rfl, rfl, reps_ints⟩
theorem Reps.cut {K : PySem.W.Frag} {T : Tab} {B : Option Addr} {M : Addr → Prop} {H : Hp} {ds : List D} {vs : List V} (r : Reps K T B M H ds vs) (l h : Option Int) : Reps K T B M H (cutG ds l h) (cutV vs l h) := by
  unfold cutG cutV
  rw [r.len]
  exact (r.drop _).take _
section
variable {X : Cx} {T : Tab} {e : Expr} {te : DTE} {lo hi : Option Expr} {tl th : DTO} {pos p2 : Pos}
theorem do_none : PO X none (UpO X.K T oNone) := ⟨fun pins s σ H Q I ⟨S, τ, QD, sr, h, k⟩ => po_none.run pins s σ H Q I (k H none sr.same h)⟩
theorem do_some (he : PE X e (UpE X.K T te)) : PO X (some e) (UpO X.K T (oSome te)) := ⟨fun pins s σ H Q I ⟨S, τ, QD, sr, h, k⟩ => (po_some he).run pins s σ H Q I ⟨S, τ, _, sr, h, fun H1 v x a r q => by
  have r := r.g sr
  split at q
  · rename_i i ei
    rw [ei] at r
    exact ⟨i, r, k H1 (some i) a q⟩
  · exact q.elim⟩⟩
theorem de_sl (he : PE X e (UpE X.K T te)) (hl : PO X lo (UpO X.K T tl)) (hh : PO X hi (UpO X.K T th)) : PE X (.Subscript e (.Slice lo hi none p2) pos) (UpE X.K T (dSl te tl th)) :=
  (pe_slice ((sl_list.or sl_tupA).or C8.sl_txt) he hl hh).of fun σ H Q ⟨S, τ, QD, sr, h, k⟩ => ⟨S, τ, _, sr, h, fun H1 v x a1 r1 q1 => ⟨S, τ, _, sr.aft a1, q1, fun H2 l a2 q2 => ⟨S, τ, _, (sr.aft a1).aft a2, q2, fun H3 u a3 q3 => by
    have s1 := sr.aft a1
    have s2 := s1.aft a2
    have s3 := s2.aft a3
    have a12 := a2.trans a3
    have r : RepG X.K T S x.g H3 x.d v := s1.rep a12.kp (r1.g sr)
    cases ed : x.d with
    | lst ds =>
      rw [ed] at r q3
      obtain ⟨a, vs, rfl, e1, e2, r⟩ := r
      refine .inl (.inl ⟨a, vs, rfl, SqL.of e1, fun p hp => ?_⟩)
      have a4 : Aft X.K T S H3 (upd H3 p (.lst (cutV vs l u))) := s3.laid hp
      exact k _ _ _ (a1.trans (a12.trans a4)) ((RepSl.mkL s3 hp upd_same (Kp.laid hp) (RepsG.upl (Reps.cut r l u))).back (a1.trans a12)) q3
    | tup ds =>
      rw [ed] at r q3
      obtain ⟨a, vs, rfl, e1, r⟩ := r
      have rc := RepsG.upl (g := x.g) (S := S) (Reps.cut r l u)
      refine .inl (.inr ⟨a, vs, rfl, e1, fun hw => ?_, fun _ p hp => ?_⟩)
      · have ew : cutV vs l u = vs := by
          unfold cutV
          rw [hw.1, hw.2, List.drop_zero, Nat.sub_zero]
          exact List.take_of_length_le (Nat.le_refl _)
        rw [ew] at rc
        exact k _ _ (.v _ (.tup (cutG ds l u))) (a1.trans a12) ⟨a, vs, rfl, e1, rc⟩ q3
      · have a4 : Aft X.K T S H3 (upd H3 p (.tup (cutV vs l u))) := s3.laid hp
        exact k _ _ (.v _ (.tup (cutG ds l u))) (a1.trans (a12.trans a4)) ⟨p, _, rfl, SqT.of upd_same, s3.reps a4.kp rc⟩ q3
    | scr ns =>
      rw [ed] at r q3
      obtain ⟨a, rfl, r⟩ := r
      have rs : RepsG X.K T S 2 H3 (ns.map D.int) (ns.map V.int) := reps_ints
      refine .inl (.inl ⟨a, ns.map V.int, rfl, ?_, fun p hp => ?_⟩)
      · rcases r with ⟨r, _⟩ | r
        · exact .inl r
        · exact .inr r
      · exact k _ _ _ (a1.trans (a12.trans (s3.laid hp))) ((RepSl.mkL (g := 2) s3 hp upd_same (Kp.laid hp) (Reps.cut rs l u)).back (a1.trans a12)) q3
    | str z =>
      rw [ed] at r q3
      have r : v = .str z := r
      exact .inr ⟨z, r, Nat.le_trans q3.1 (by rw [sizeLine_eq]; decide), k _ _ (.v 2 (.str (Txt.slice z l u))) (a1.trans a12) rfl q3.2⟩
    | _ => rw [ed] at q3; exact q3.elim⟩⟩⟩
end

/-! ### sums of lists and tuples, lengths -/
/-- + of ints, lists, tuples, texts -/
@[simp] def fAdd : DF2 := fun g d g' d' Q => match d, d' with
  | .int i, .int j => Q (.v 2 (.int (i + j)))
  | .lst xs, .lst ys => xs.length + ys.length ≤ 1000000 ∧ Q (mkL (min (upl g xs) (upl g' ys)) (xs ++ ys))
  | .tup xs, .tup ys => xs.length + ys.length ≤ 1000000 ∧ Q (.v (min (upl g xs) (upl g' ys)) (.tup (xs ++ ys)))
  | .str x, .str y => x.length + y.length ≤ 1000000 ∧ Q (.v 2 (.str (x ++ y)))
  | _, _ => False
/-- * of ints, of a list and an int -/
@[simp] def fMul : DF2 := fun g d _ d' Q => match d, d' with
  | .int i, .int j => CMul i j ∧ Q (.v 2 (.int (i * j)))
  | .lst xs, .int k => k < 1000000 ∧ xs.length * k.toNat ≤ 1000000 ∧ -1000000 < k ∧ Q (mkL (upl g xs) (List.replicate k.toNat xs).flatten)
  | _, _ => False
section
variable {X : Cx} {T : Tab}
theorem op_addA : OpR X (binaryOp .Add) (fun x y H Q => (rI0 fun i j => .int (i + j)) x y H Q ∨ (rCat x y H Q ∨ (rCatA X.K x y H Q ∨ ∃ i j, x = .str i ∧ y = .str j ∧ i.length + j.length ≤ sizeLine ∧ Q (.str (i ++ j)) H))) := op_add.or (op_cat.or (op_catA.or op_add_str))
theorem r2_add {K : PySem.W.Frag} : R2D K T (fun x y H Q => (rI0 fun i j => .int (i + j)) x y H Q ∨ (rCat x y H Q ∨ (rCatA K x y H Q ∨ ∃ i j, x = .str i ∧ y = .str j ∧ i.length + j.length ≤ sizeLine ∧ Q (.str (i ++ j)) H))) fAdd := by
  intro S τ σ H g d g' d' v u QD Q sr r1 r2 q k
  unfold fAdd at q
  split at q
  · rename_i i j
    exact .inl ⟨i, j, r1, r2, k H _ (.v 2 (.int (i + j))) sr.same rfl q⟩
  · rename_i xs ys
    obtain ⟨a, vs, rfl, e1, m1, r1⟩ := r1
    obtain ⟨b, us, rfl, e2, m2, r2⟩ := r2
    obtain ⟨hz, q⟩ := q
    refine .inr (.inl ⟨a, b, vs, us, rfl, rfl, e1, e2, by rw [r1.len, r2.len]; exact lim_le' hz, fun p hp => ?_⟩)
    have r3 : RepsG K T S (min (upl g xs) (upl g' ys)) H (xs ++ ys) (vs ++ us) :=
      Reps.append (RepsG.le sr (Nat.min_le_left _ _) (RepsG.upl r1)) (RepsG.le sr (Nat.min_le_right _ _) (RepsG.upl r2))
    exact k _ _ _ (sr.laid hp) (RepSl.mkL sr hp upd_same (Kp.laid hp) r3) q
  · rename_i xs ys
    obtain ⟨a, vs, rfl, e1, r1⟩ := r1
    obtain ⟨b, us, rfl, e2, r2⟩ := r2
    obtain ⟨hz, q⟩ := q
    have r3 : RepsG K T S (min (upl g xs) (upl g' ys)) H (xs ++ ys) (vs ++ us) :=
      Reps.append (RepsG.le sr (Nat.min_le_left _ _) (RepsG.upl r1)) (RepsG.le sr (Nat.min_le_right _ _) (RepsG.upl r2))
    refine .inr (.inr (.inl ⟨a, b, vs, us, rfl, rfl, e1, e2, by rw [r1.len, r2.len]; exact lim_le' hz, fun hx => ?_, fun _ hy => ?_, fun _ _ p hp => ?_⟩))
    · subst hx
      exact k _ _ (.v _ (.tup (xs ++ ys))) sr.same ⟨b, _, rfl, e2, r3⟩ q
    · subst hy
      rw [List.append_nil] at r3
      exact k _ _ (.v _ (.tup (xs ++ ys))) sr.same ⟨a, _, rfl, e1, r3⟩ q
    · have a2 := sr.laid (o := .tup (vs ++ us)) hp
      exact k _ _ (.v _ (.tup (xs ++ ys))) a2 ⟨p, _, rfl, SqT.of upd_same, sr.reps a2.kp r3⟩ q
  · rename_i x y
    obtain ⟨hz, q⟩ := q
    exact .inr (.inr (.inr ⟨x, y, r1, r2, lim_le' hz, k H _ (.v 2 (.str (x ++ y))) sr.same rfl q⟩))
  · exact q.elim
theorem op_mulA : OpR X (binaryOp .Mult) (fun x y H Q => (rI CMul fun i j => .int (i * j)) x y H Q ∨ rRep x y H Q) := op_mul.or op_rep
theorem r2_mul {K : PySem.W.Frag} : R2D K T (fun x y H Q => (rI CMul fun i j => .int (i * j)) x y H Q ∨ rRep x y H Q) fMul := by
  intro S τ σ H g d g' d' v u QD Q sr r1 r2 q k
  unfold fMul at q
  split at q
  · rename_i i j
    exact .inl ⟨i, j, r1, r2, q.1, k H _ (.v 2 (.int (i * j))) sr.same rfl q.2⟩
  · rename_i xs n
    obtain ⟨a, vs, rfl, e1, m1, r1⟩ := r1
    obtain ⟨h1, hz, h2, q⟩ := q
    refine .inr ⟨a, n, vs, rfl, r2, e1, by omega, by omega, by rw [r1.len]; exact lim_le' hz, fun p hp => ?_⟩
    exact k _ _ _ (sr.laid hp) (RepSl.mkL sr hp upd_same (Kp.laid hp) (Reps.rep (RepsG.upl r1) _)) q
  · exact q.elim
variable {a b : Expr} {ta tb : DTE} {pos : Pos}
theorem de_add (ha : PE X a (UpE X.K T ta)) (hb : PE X b (UpE X.K T tb)) : PE X (.BinOp a .Add b pos) (UpE X.K T (dOp fAdd ta tb)) := de_op op_addA r2_add ha hb
theorem de_sub (ha : PE X a (UpE X.K T ta)) (hb : PE X b (UpE X.K T tb)) : PE X (.BinOp a .Sub b pos) (UpE X.K T (dOp (fI0 fun i j => .int (i - j)) ta tb)) := de_op op_sub (r2_I0 fun _ _ => rfl) ha hb
theorem de_mul (ha : PE X a (UpE X.K T ta)) (hb : PE X b (UpE X.K T tb)) : PE X (.BinOp a .Mult b pos) (UpE X.K T (dOp fMul ta tb)) := de_op op_mulA r2_mul ha hb
theorem de_mod (ha : PE X a (UpE X.K T ta)) (hb : PE X b (UpE X.K T tb)) : PE X (.BinOp a .Mod b pos) (UpE X.K T (dOp (fI (fun _ j => 0 < j) fun i j => .int (i % j)) ta tb)) := de_op op_mod (r2_I fun _ _ => rfl) ha hb
theorem cdivW {i j : Int} (h : 0 < j) (h2 : j < 10000000000000000000000000000000000000000) : CDivW i j := by
  have e : (10000000000000000000000000000000000000000 : Nat) < 2 ^ 200 := by decide
  exact wide_div (b := 200) h (by omega) (by decide) (by decide)
theorem de_fdiv (ha : PE X a (UpE X.K T ta)) (hb : PE X b (UpE X.K T tb)) : PE X (.BinOp a .FloorDiv b pos) (UpE X.K T (dOp (fI CDivW fun i j => .int (i / j)) ta tb)) := de_op op_fdivW (r2_I fun _ _ => rfl) ha hb
theorem de_pow (ha : PE X a (UpE X.K T ta)) (hb : PE X b (UpE X.K T tb)) : PE X (.BinOp a .Pow b pos) (UpE X.K T (dOp (fI CPow fun i j => .int (i ^ j.toNat)) ta tb)) := de_op op_pow (r2_I fun _ _ => rfl) ha hb
abbrev fLt : DF2 := fI0 fun i j => .bl (decide (i < j))
abbrev fLe : DF2 := fI0 fun i j => .bl (decide (i ≤ j))
abbrev fGt : DF2 := fI0 fun i j => .bl (decide (j < i))
abbrev fGe : DF2 := fI0 fun i j => .bl (decide (j ≤ i))
/-- a < b < c and the like, of ints -/
@[simp] def dChain (p q : Int → Int → Bool) (ta tb tc : DTE) : DTE := fun τ Q => ta τ fun x => tb τ fun y => match x.d, y.d with
  | .int i, .int j => if p i j = true then tc τ fun z => (match z.d with | .int k => Q (.v 2 (.bl (q j k))) | _ => False) else Q (.v 2 (.bl false))
  | _, _ => False
theorem de_chain {c : Expr} {tc : DTE} {op op' : CmpOp} {p q : Int → Int → Bool} (ho : OpR X (compareOp op) (rI0 fun i j => .bl (p i j))) (ho' : OpR X (compareOp op') (rI0 fun i j => .bl (q i j))) (ha : PE X a (UpE X.K T ta)) (hb : PE X b (UpE X.K T tb)) (hc : PE X c (UpE X.K T tc))
    (hm : PE X (.Compare a [op, op'] [b, c] pos) (tChain (rI0 fun i j => .bl (p i j)) (rI0 fun i j => .bl (q i j)) (UpE X.K T ta) (UpE X.K T tb) (UpE X.K T tc))) : PE X (.Compare a [op, op'] [b, c] pos) (UpE X.K T (dChain p q ta tb tc)) :=
  hm.of fun σ H Q ⟨S, τ, QD, sr, h, k⟩ => ⟨S, τ, _, sr, h, fun H1 v x a1 r1 q1 => ⟨S, τ, _, sr.aft a1, q1, fun H2 u y a2 r2 q2 => by
    have s1 := sr.aft a1
    have s2 := s1.aft a2
    have r1' := s1.rep a2.kp (r1.g sr)
    have r2' := r2.g s1
    split at q2
    · rename_i i j e1 e2
      rw [e1] at r1'
      rw [e2] at r2'
      refine ⟨i, j, r1', r2', p i j, rfl, ?_⟩
      cases hp : p i j with
      | false =>
        rw [hp] at q2
        exact k H2 _ (.v 2 (.bl false)) (a1.trans a2) rfl q2
      | true =>
        rw [hp] at q2
        refine ⟨S, τ, _, s2, q2, fun H3 w z a3 r3 q3 => ?_⟩
        have r3' := r3.g s2
        split at q3
        · rename_i n e3
          rw [e3] at r3'
          exact ⟨j, n, (by rw [r2']), r3', k H3 _ (.v 2 (.bl (q j n))) (a1.trans (a2.trans a3)) rfl q3⟩
        · exact q3.elim
    · exact q2.elim⟩⟩
end
end DL
/-! DL4: equality, in, tests, built-in calls. -/
namespace DL
open PySem PySem.Spec PyProof.Rows L2
mutual
@[simp] def D.py : D → PyData
  | .non => .none
  | .bl b => .bool b
  | .int i => .int i
  | .str x => .str x
  | .tup ds => .tuple (pys ds)
  | .lst ds => .list (pys ds)
  | .obj _ _ => .none
  | .bag => .none
  | .cls _ => .none
  | .lat _ _ => .none
  | .scr _ => .none
  | .exn _ _ _ _ => .none
  | .adr _ => .none
  | .dcK _ _ => .none
  | .dcT _ _ => .none
@[simp] def pys : List D → List PyData
  | [] => []
  | d :: ds => d.py :: pys ds
end
mutual
@[simp] def D.plain : D → Bool
  | .non => true
  | .bl _ => true
  | .int _ => true
  | .str _ => true
  | .tup ds => plains ds
  | .lst ds => plains ds
  | .obj _ _ => false
  | .bag => false
  | .cls _ => false
  | .lat _ _ => false
  | .scr _ => false
  | .exn _ _ _ _ => false
  | .adr _ => false
  | .dcK _ _ => false
  | .dcT _ _ => false
@[simp] def plains : List D → Bool
  | [] => true
  | d :: ds => d.plain && plains ds
end
def shp (d : D) : Bool := d.plain && SeqAt.shaped d.py
def eqB (d e : D) : Bool := PyData.eqv d.py e.py
mutual
theorem Rep.dp {K : PySem.W.Frag} {T : Tab} {B : Option Addr} {M : Addr → Prop} {H : Hp} : ∀ (d : D) (v : V), d.plain = true → Rep K T B M H d v → Dp K H v d.py
  | .non, _, _, h => by rw [show _ = V.non from h]; exact .non
  | .bl b, _, _, h => by rw [show _ = V.bl b from h]; exact .bl b
  | .int i, _, _, h => by rw [show _ = V.int i from h]; exact .int i
  | .str x, _, _, h => by rw [show _ = V.str x from h]; exact .str x
  | .tup ds, _, p, ⟨a, vs, e, s, r⟩ => by rw [e]; exact .tup s (Reps.dp ds vs p r)
  | .lst ds, _, p, ⟨a, vs, e, s, m, r⟩ => by rw [e]; exact .lst (SqL.of s) (Reps.dp ds vs p r)
  | .obj c ds, _, p, _ => by cases p
  | .bag, _, p, _ => by cases p
  | .cls _, _, p, _ => by cases p
  | .lat _ _, _, p, _ => by cases p
  | .scr _, _, p, _ => by cases p
  | .exn _ _ _ _, _, p, _ => by cases p
  | .adr _, _, p, _ => by cases p
  | .dcK _ _, _, p, _ => by cases p
  | .dcT _ _, _, p, _ => by cases p
theorem Reps.dp {K : PySem.W.Frag} {T : Tab} {B : Option Addr} {M : Addr → Prop} {H : Hp} : ∀ (ds : List D) (vs : List V), plains ds = true → Reps K T B M H ds vs → DpAll K H vs (pys ds)
  | [], _, _, h => by rw [show _ = [] from h]; exact .nil
  | d :: ds, _, p, ⟨v, r, e, h1, h2⟩ => by
    have p2 : (d.plain && plains ds) = true := p
    obtain ⟨p3, p4⟩ := Bool.and_eq_true_iff.mp p2
    rw [e]
    exact .cons (Rep.dp d v p3 h1) (Reps.dp ds r p4 h2)
end
theorem pys_any (d : D) : ∀ ds : List D, ((pys ds).any fun z => PyData.eqv z d.py) = ds.any fun z => eqB z d
  | [] => rfl
  | e :: es => by
    show (PyData.eqv e.py d.py || (pys es).any _) = (eqB e d || es.any _)
    rw [pys_any d es]
    rfl
@[simp] def fEq : DF2 := fun _ d _ d' Q => (shp d = true ∧ shp d' = true) ∧ Q (.v 2 (.bl (eqB d d')))
@[simp] def fNe : DF2 := fun _ d _ d' Q => (shp d = true ∧ shp d' = true) ∧ Q (.v 2 (.bl (!eqB d d')))
@[simp] def fIn : DF2 := fun _ d _ d' Q => match d' with
  | .lst ds => (shp d = true ∧ shp (.lst ds) = true) ∧ Q (.v 2 (.bl (ds.any fun z => eqB z d)))
  | _ => False
@[simp] def fNotIn : DF2 := fun _ d _ d' Q => match d' with
  | .lst ds => (shp d = true ∧ shp (.lst ds) = true) ∧ Q (.v 2 (.bl (!ds.any fun z => eqB z d)))
  | _ => False
def isNon : D → Bool
  | .non => true
  | _ => false
@[simp] theorem isNon_n : isNon .non = true := rfl
@[simp] theorem isNon_b (x : Bool) : isNon (.bl x) = false := rfl
@[simp] theorem isNon_i (x : Int) : isNon (.int x) = false := rfl
@[simp] theorem isNon_s (x : Str) : isNon (.str x) = false := rfl
@[simp] theorem isNon_t (x : List D) : isNon (.tup x) = false := rfl
@[simp] theorem isNon_l (x : List D) : isNon (.lst x) = false := rfl
@[simp] theorem isNon_o (c : Nat) (x : List D) : isNon (.obj c x) = false := rfl
theorem shp_dp {K : PySem.W.Frag} {T : Tab} {B : Option Addr} {M : Addr → Prop} {H : Hp} {d : D} {v : V} (h : shp d = true) (r : Rep K T B M H d v) : Dp K H v d.py ∧ SeqAt.shaped d.py = true := by
  obtain ⟨h1, h2⟩ := Bool.and_eq_true_iff.mp h
  exact ⟨Rep.dp d v h1 r, h2⟩
section
variable {K : PySem.W.Frag} {T : Tab}
theorem r2_eq : R2D K T (rEqD K) fEq := by
  intro S τ σ H g d g' d' v u QD Q sr r1 r2 q k
  obtain ⟨⟨h1, h2⟩, q⟩ := q
  obtain ⟨p1, s1⟩ := shp_dp h1 r1
  obtain ⟨p2, s2⟩ := shp_dp h2 r2
  exact ⟨_, _, p1, p2, s1, s2, k H _ (.v 2 (.bl (eqB d d'))) sr.same rfl q⟩
theorem r2_ne : R2D K T (rNeD K) fNe := by
  intro S τ σ H g d g' d' v u QD Q sr r1 r2 q k
  obtain ⟨⟨h1, h2⟩, q⟩ := q
  obtain ⟨p1, s1⟩ := shp_dp h1 r1
  obtain ⟨p2, s2⟩ := shp_dp h2 r2
  exact ⟨_, _, p1, p2, s1, s2, k H _ (.v 2 (.bl (!eqB d d'))) sr.same rfl q⟩
theorem r2_in : R2D K T (rInD K) fIn := by
  intro S τ σ H g d g' d' v u QD Q sr r1 r2 q k
  cases d' with
  | lst ds =>
    obtain ⟨⟨h1, h2⟩, q⟩ := q
    obtain ⟨p1, s1⟩ := shp_dp h1 r1
    obtain ⟨p2, s2⟩ := shp_dp h2 r2
    refine ⟨_, pys ds, p1, p2, s1, s2, ?_⟩
    rw [pys_any]
    exact k H _ (.v 2 (.bl _)) sr.same rfl q
  | _ => exact (show False from q).elim
theorem Rep.isNon {B : Option Addr} {M : Addr → Prop} {H : Hp} : ∀ {d : D} {v : V}, Rep K T B M H d v → decide (v = .non) = DL.isNon d
  | .non, _, h => by rw [show _ = V.non from h]; rfl
  | .bl b, _, h => by rw [show _ = V.bl b from h]; rfl
  | .int i, _, h => by rw [show _ = V.int i from h]; rfl
  | .str x, _, h => by rw [show _ = V.str x from h]; rfl
  | .tup ds, _, ⟨a, vs, e, s, r⟩ => by rw [e]; rfl
  | .lst ds, _, ⟨a, vs, e, s, m, r⟩ => by rw [e]; rfl
  | .obj c ds, _, ⟨a, dx, vs, e, s, m, r⟩ => by rw [e]; rfl
  | .bag, _, ⟨b, _, e⟩ => by rw [e]; rfl
  | .cls c, _, h => by rw [show _ = V.ref (T c).1 from h]; rfl
  | .lat a ds, _, ⟨vs, e, s, m, r⟩ => by rw [e]; rfl
  | .scr _, _, ⟨a, e, _⟩ => by rw [e]; rfl
  | .exn _ _ _ _, _, ⟨vs, e, _⟩ => by rw [e]; rfl
  | .adr _, _, h => by rw [show _ = V.ref _ from h]; rfl
  | .dcK _ _, _, ⟨a, vs, e, _⟩ => by rw [e]; rfl
  | .dcT _ _, _, ⟨a, L, vs, e, _⟩ => by rw [e]; rfl
end
section
variable {X : Cx} {T : Tab} {a b : Expr} {ta tb : DTE} {pos : Pos}
@[simp] def dIsN (ta : DTE) : DTE := fun τ Q => ta τ fun s => Q (.v 2 (.bl (isNon s.d)))
@[simp] def dNotN (ta : DTE) : DTE := fun τ Q => ta τ fun s => Q (.v 2 (.bl (!isNon s.d)))
theorem de_isN {j pos'} (ha : PE X a (UpE X.K T ta)) : PE X (.Compare a [.Is] [.Constant .none j pos'] pos) (UpE X.K T (dIsN ta)) :=
  (pe_cmp (pc_isN ha) rfl).of fun σ H Q ⟨S, τ, QD, sr, h, k⟩ => ⟨S, τ, _, sr, h, fun H1 v x a1 r1 q1 => by
    show Q (V.bl (decide (v = V.non))) H1
    rw [(r1.g sr).isNon]
    exact k H1 _ (.v 2 (.bl _)) a1 rfl q1⟩
/-! ### tests -/
@[simp] def tV (te : DTE) : DTT := fun τ Q => te τ fun s => match s.d with
  | .bl b => Q b
  | _ => False
theorem dt_val (h : PE X a (UpE X.K T ta)) (he : ∀ whole, isTrue a X.env whole = (do let v ← whole; standAt a.pos; holding [v] (truthy v)) := by intro _; rfl) : PT X a (UpT X.K T (tV ta)) :=
  (pt_val h he).of fun σ H Q ⟨S, τ, QD, sr, h, k⟩ => ⟨S, τ, _, sr, h, fun H1 v x a1 r1 q1 => by
    have r := r1.g sr
    split at q1
    · rename_i b e
      rw [e] at r
      exact ⟨b, r, k H1 b a1 q1⟩
    · exact q1.elim⟩
theorem dt_cmp {op : CmpOp} {r : R2} {f : DF2} (ho : OpR X (compareOp op) r) (hr : R2D X.K T r f) (ha : PE X a (UpE X.K T ta)) (hb : PE X b (UpE X.K T tb)) (hm : behindInMarks op b = false) : PT X (.Compare a [op] [b] pos) (UpT X.K T (tV (dOp f ta tb))) :=
  (pt_cmpR ho ha hb hm).of fun σ H Q ⟨S, τ, QD, sr, h, k⟩ => up_op hr ⟨S, τ, _, sr, h, fun H1 v x a1 r1 q1 => by
    have r := r1.g sr
    split at q1
    · rename_i b e
      rw [e] at r
      exact ⟨b, r, k H1 b a1 q1⟩
    · exact q1.elim⟩
theorem dt_isN {j pos'} (ha : PE X a (UpE X.K T ta)) : PT X (.Compare a [.Is] [.Constant .none j pos'] pos) (UpT X.K T (tV (dIsN ta))) :=
  (pt_cmp (pc_isN ha) rfl).of fun σ H Q ⟨S, τ, QD, sr, h, k⟩ => ⟨S, τ, _, sr, h, fun H1 v x a1 r1 q1 => by
    show ∃ c, V.bl (decide (v = V.non)) = V.bl c ∧ Q c H1
    rw [(r1.g sr).isNon]
    exact ⟨_, rfl, k H1 _ a1 q1⟩⟩
theorem dt_notN {j pos'} (ha : PE X a (UpE X.K T ta)) : PT X (.Compare a [.IsNot] [.Constant .none j pos'] pos) (UpT X.K T (tV (dNotN ta))) :=
  (pt_cmp (pc_notN ha) rfl).of fun σ H Q ⟨S, τ, QD, sr, h, k⟩ => ⟨S, τ, _, sr, h, fun H1 v x a1 r1 q1 => by
    show ∃ c, V.bl (!decide (v = V.non)) = V.bl c ∧ Q c H1
    rw [(r1.g sr).isNon]
    exact ⟨_, rfl, k H1 _ a1 q1⟩⟩
@[simp] def tvAnd (t u : DTT) : DTT := fun τ Q => t τ fun c => if c = true then u τ Q else Q false
@[simp] def tvOr (t u : DTT) : DTT := fun τ Q => t τ fun c => if c = true then Q true else u τ Q
@[simp] def tvNot (t : DTT) : DTT := fun τ Q => t τ fun c => Q (!c)
variable {rest : List Expr} {t u : DTT}
theorem dw_and1 (ha : PT X a (UpT X.K T t)) : PW X (.BoolOp .And [a] pos) (UpT X.K T t) := pw_and1 ha
theorem dw_or1 (ha : PT X a (UpT X.K T t)) : PW X (.BoolOp .Or [a] pos) (UpT X.K T t) := pw_or1 ha
theorem dw_and (ha : PT X a (UpT X.K T t)) (hb : PW X (.BoolOp .And (b :: rest) pos) (UpT X.K T u)) : PW X (.BoolOp .And (a :: b :: rest) pos) (UpT X.K T (tvAnd t u)) :=
  (pw_and ha hb).of fun σ H Q ⟨S, τ, QD, sr, h, k⟩ => ⟨S, τ, _, sr, h, fun H1 c a1 q1 => by
    cases c with
    | true => exact ⟨S, τ, QD, sr.aft a1, q1, fun H2 b a2 q2 => k H2 b (a1.trans a2) q2⟩
    | false => exact k H1 false a1 q1⟩
theorem dw_or (ha : PT X a (UpT X.K T t)) (hb : PW X (.BoolOp .Or (b :: rest) pos) (UpT X.K T u)) : PW X (.BoolOp .Or (a :: b :: rest) pos) (UpT X.K T (tvOr t u)) :=
  (pw_or ha hb).of fun σ H Q ⟨S, τ, QD, sr, h, k⟩ => ⟨S, τ, _, sr, h, fun H1 c a1 q1 => by
    cases c with
    | true => exact k H1 true a1 q1
    | false => exact ⟨S, τ, QD, sr.aft a1, q1, fun H2 b a2 q2 => k H2 b (a1.trans a2) q2⟩⟩
theorem dt_not (ha : PT X a (UpT X.K T t)) : PT X (.UnaryOp .Not a pos) (UpT X.K T (tvNot t)) :=
  (pt_not ha).of fun σ H Q ⟨S, τ, QD, sr, h, k⟩ => ⟨S, τ, _, sr, h, fun H1 c a1 q1 => k H1 (!c) a1 q1⟩
/-- as values -/
@[simp] def vAnd (ta tb : DTE) : DTE := fun τ Q => ta τ fun s => match s.d with
  | .bl c => if c = true then tb τ Q else Q (.v 2 (.bl false))
  | _ => False
@[simp] def vOr (ta tb : DTE) : DTE := fun τ Q => ta τ fun s => match s.d with
  | .bl c => if c = true then Q (.v 2 (.bl true)) else tb τ Q
  | _ => False
@[simp] def vNot (ta : DTE) : DTE := fun τ Q => ta τ fun s => match s.d with
  | .bl c => Q (.v 2 (.bl (!c)))
  | _ => False
theorem de_one {op} (h : PE X a (UpE X.K T ta)) : PE X (.BoolOp op [a] pos) (UpE X.K T ta) := pe_one h
theorem de_and (ha : PE X a (UpE X.K T ta)) (hb : PE X (.BoolOp .And (b :: rest) pos) (UpE X.K T tb)) : PE X (.BoolOp .And (a :: b :: rest) pos) (UpE X.K T (vAnd ta tb)) :=
  (pe_and ha hb).of fun σ H Q ⟨S, τ, QD, sr, h, k⟩ => ⟨S, τ, _, sr, h, fun H1 v x a1 r1 q1 => by
    have r := r1.g sr
    split at q1
    · rename_i c e
      rw [e] at r
      refine ⟨c, r, ?_⟩
      cases c with
      | true => exact ⟨S, τ, QD, sr.aft a1, q1, fun H2 w sl a2 r2 q2 => k H2 w sl (a1.trans a2) (r2.back a1) q2⟩
      | false => exact k H1 _ (.v 2 (.bl false)) a1 rfl q1
    · exact q1.elim⟩
@[simp] def dIfE (t : DTT) (ta tb : DTE) : DTE := fun τ Q => t τ fun c => if c = true then ta τ Q else tb τ Q
theorem de_ifExp {c : Expr} (hc : PT X c (UpT X.K T t)) (ha : PE X a (UpE X.K T ta)) (hb : PE X b (UpE X.K T tb)) : PE X (.IfExp c a b pos) (UpE X.K T (dIfE t ta tb)) :=
  (pe_ifExp hc ha hb).of fun σ H Q ⟨S, τ, QD, sr, h, k⟩ => ⟨S, τ, _, sr, h, fun H1 c a1 q1 => by
    cases c with
    | true => exact ⟨S, τ, QD, sr.aft a1, q1, fun H2 w sl a2 r2 q2 => k H2 w sl (a1.trans a2) (r2.back a1) q2⟩
    | false => exact ⟨S, τ, QD, sr.aft a1, q1, fun H2 w sl a2 r2 q2 => k H2 w sl (a1.trans a2) (r2.back a1) q2⟩⟩
end

/-! ### built-in calls -/
abbrev DCB := Nat → List D → (Sl → Prop) → Prop
@[simp] def dCB (f : DCB) (ta : DTA) : DTE := fun τ Q => ta τ fun g ds => f g ds Q
def CBD (K : PySem.W.Frag) (T : Tab) (r : List V → Hp → VK → Prop) (f : DCB) : Prop := ∀ (S : Sit) (τ : DSt) (σ : L2.St) (H : Hp) (g : Nat) (ds : List D) (vs : List V) (QD : Sl → Prop) (Q : VK), SR K T S τ σ H → RepsG K T S g H ds vs → f g ds QD →
  (∀ H' w sl, Aft K T S H H' → RepSl K T S H H' sl w → QD sl → Q w H') → r vs H Q
section
variable {X : Cx} {T : Tab} {e : Expr} {es : List Expr} {t : DTA} {id Ty : String} {r : List V → Hp → VK → Prop} {f : DCB} {x : Str} {p pos : Pos}
theorem de_cb {c : Expr} (hr : CBD X.K T r f) (h : PE X c (tCB r (UpA X.K T t))) : PE X c (UpE X.K T (dCB f t)) :=
  h.of fun σ H Q ⟨S, τ, QD, sr, h, k⟩ => ⟨S, τ, _, sr, h, fun H1 vs g ds a1 r1 q1 =>
    hr S τ σ H1 g ds vs QD Q (sr.aft a1) r1 q1 fun H2 w sl a2 r2 q2 => k H2 w sl (a1.trans a2) (r2.back a1) q2⟩
end
@[simp] def fLen : DCB := fun _ ds Q => match ds with
  | [d] => match elems d with
    | some es => Q (.v 2 (.int (es.length : Nat)))
    | none => False
  | _ => False
@[simp] def fList : DCB := fun g ds Q => match ds with
  | [d] => match elems d with
    | some es => Q (mkL (upl g es) es)
    | none => False
  | _ => False
@[simp] def fMax : DCB := fun _ ds Q => match ds with
  | [.int i, .int j] => Q (.v 2 (.int (if j > i then j else i)))
  | _ => False
@[simp] def fMin : DCB := fun _ ds Q => match ds with
  | [.int i, .int j] => Q (.v 2 (.int (if j < i then j else i)))
  | _ => False
@[simp] def fInt : DCB := fun _ ds Q => match ds with
  | [.int i] => Q (.v 2 (.int i))
  | [.bl b] => Q (.v 2 (.int (if b then 1 else 0)))
  | _ => False
@[simp] def fTuple : DCB := fun g ds Q => match ds with
  | [d] => match elems d with
    | some es => Q (.v (upl g es) (.tup es))
    | none => False
  | _ => False
section
variable {K : PySem.W.Frag} {T : Tab}
theorem Reps.two {B : Option Addr} {M : Addr → Prop} {H : Hp} {d e : D} {vs : List V} (h : Reps K T B M H [d, e] vs) : ∃ v u, vs = [v, u] ∧ Rep K T B M H d v ∧ Rep K T B M H e u := by
  obtain ⟨v, r, e1, h1, u, r', e2, h2, e3⟩ := h
  have e3 : r' = [] := e3
  exact ⟨v, u, by rw [e1, e2, e3], h1, h2⟩
theorem Reps.one' {B : Option Addr} {M : Addr → Prop} {H : Hp} {d : D} {vs : List V} (h : Reps K T B M H [d] vs) : ∃ v, vs = [v] ∧ Rep K T B M H d v := by
  obtain ⟨v, r, e1, h1, e3⟩ := h
  have e3 : r = [] := e3
  exact ⟨v, by rw [e1, e3], h1⟩
theorem Rep.el {B : Option Addr} {M : Addr → Prop} {H : Hp} {d : D} {v : V} {es : List D} (h : Rep K T B M H d v) (e : elems d = some es) : ∃ p vs, v = .ref p ∧ (SqL K H p vs ∨ SqT K H p vs) ∧ Reps K T B M H es vs := by
  cases d with
  | lst ds =>
    cases e
    obtain ⟨a, vs, rfl, e1, _, r⟩ := h
    exact ⟨a, vs, rfl, .inl (SqL.of e1), r⟩
  | tup ds =>
    cases e
    obtain ⟨a, vs, rfl, e1, r⟩ := h
    exact ⟨a, vs, rfl, .inr e1, r⟩
  | _ => cases e
theorem cb_len : CBD K T (fun xs H Q => ∃ p ys, xs = [.ref p] ∧ (SqL K H p ys ∨ SqT K H p ys) ∧ Q (.int ys.length) H) fLen := by
  intro S τ σ H g ds vs QD Q sr r q k
  unfold fLen at q
  split at q
  · rename_i d
    obtain ⟨v, rfl, r0⟩ := r.one'
    split at q
    · rename_i es e
      obtain ⟨p, us, rfl, hs, r1⟩ := Rep.el r0 e
      exact ⟨p, us, rfl, hs, k H _ (.v 2 (.int (es.length : Nat))) sr.same (by rw [r1.len]; rfl) q⟩
    · exact q.elim
  · exact q.elim
theorem cb_list : CBD K T (fun xs H Q => ∃ p ys, xs = [.ref p] ∧ (SqL K H p ys ∨ SqT K H p ys) ∧ ∀ l, H l = none → Q (.ref l) (upd H l (.lst ys))) fList := by
  intro S τ σ H g ds vs QD Q sr r q k
  unfold fList at q
  split at q
  · rename_i d
    obtain ⟨v, rfl, r0⟩ := r.one'
    split at q
    · rename_i es e
      obtain ⟨p, us, rfl, hs, r1⟩ := Rep.el r0 e
      exact ⟨p, us, rfl, hs, fun l hl => k _ _ _ (sr.laid hl) (RepSl.mkL sr hl upd_same (Kp.laid hl) (RepsG.upl r1)) q⟩
    · exact q.elim
  · exact q.elim
theorem cb_tuple : CBD K T (fun xs H Q => ∃ p ys, xs = [.ref p] ∧ ((SqL K H p ys ∧ ∀ l, H l = none → Q (.ref l) (upd H l (.tup ys))) ∨ (SqT K H p ys ∧ Q (.ref p) H))) fTuple := by
  intro S τ σ H g ds vs QD Q sr r q k
  unfold fTuple at q
  split at q
  · rename_i d
    obtain ⟨v, rfl, r0⟩ := r.one'
    split at q
    · rename_i es e
      obtain ⟨p, us, rfl, hs, r1⟩ := Rep.el r0 e
      have r' := RepsG.upl r1
      refine ⟨p, us, rfl, ?_⟩
      rcases hs with hs | hs
      · refine .inl ⟨hs, fun l hl => ?_⟩
        have a2 := sr.laid (o := .tup us) hl
        exact k _ _ (.v _ (.tup es)) a2 ⟨l, us, rfl, SqT.of upd_same, sr.reps a2.kp r'⟩ q
      · exact .inr ⟨hs, k _ _ (.v _ (.tup es)) sr.same ⟨p, us, rfl, hs, r'⟩ q⟩
    · exact q.elim
  · exact q.elim
end
end DL
/-! DL5: stores, targets, loops. -/
namespace DL
open PySem PySem.Spec PyProof.Rows L2
section
variable {K : PySem.W.Frag} {T : Tab} {S : Sit} {τ : DSt} {σ : L2.St} {H H' : Hp}
theorem set_at {α : Type} {l : List α} {i : Nat} {x y : α} (e : (l.set i x)[i]? = some y) : i < l.length ∧ y = x := by
  have hi : i < l.length := by
    rw [← List.length_set]
    exact (List.getElem?_eq_some_iff.mp e).1
  rw [List.getElem?_set_self hi] at e
  exact ⟨hi, (Option.some.inj e).symm⟩
/-- a list of one's own is changed -/
theorem SR.put {i : Nat} {ds es : List D} {p : Addr} {us : List V} (sr : SR K T S τ σ H) (e : τ[i]? = some (.own ds)) (eσ : σ[i]? = some (some (.ref p))) (r : RepsG K T S 2 H es us) :
    SR K T S (τ.set i (.own es)) σ (upd H p (.lst us)) ∧ Kp S.P H (upd H p (.lst us)) := by
  obtain ⟨p', vs, e1, e2, e3, e4, e5, _⟩ := sr.own i ds e
  rw [eσ] at e1
  have ep : p = p' := by
    have := Option.some.inj (Option.some.inj e1)
    exact V.ref.inj this
  subst ep
  have k : Kp S.P H (upd H p (.lst us)) := Kp.write e3 e2
  have h0 : Nv S.H0 p := sr.fr p e3 e4 e5
  have sub : ∀ g, 1 ≤ g → ∀ a, S.P a → gset S g a := fun g hg a z => match g, hg with
    | 1, _ => z
    | _ + 2, _ => .inl z
  refine ⟨⟨by rw [List.length_set]; exact sr.len, sr.bp, fun a h => k.s a (sr.al a h), sr.ml, ⟨fun a o h n tt => ?_, fun a xs h => k.t a xs (sr.kp.t a xs h), fun a o u h => k.z a o u (sr.kp.z a o u h), fun a h => k.s a (sr.kp.s a h)⟩, sr.xp, sr.fr, sr.bl, ?_, sr.lp, fun j g d q => ?_, fun j fs q => ?_, fun j c fs q => ?_, fun x hx => ⟨(sr.gh x hx).1, Rep.kp k (sub x.1 (sr.gh x hx).1) _ _ (sr.gh x hx).2⟩, fun j l fs gs q q1 q2 q3 q4 => ?_, fun j x q => ?_, fun j l x y q1 q2 => sr.su j l x y (set_sto (fun _ z => by cases z) q1) (set_sto (fun _ z => by cases z) q2)⟩, k⟩
  · have ne : a ≠ p := fun z => h0 (Lv.of (z ▸ h) tt)
    rw [upd_ne ne]
    exact sr.kp.k0 a o h n tt
  · refine sr.bag.kp (N := fun a => a = p) (Kp.write rfl e2) (Tk.write e2 (fun _ z => by cases z) fun _ z => by cases z) fun b hb => ⟨fun z => e4 (z ▸ hb), fun z => ?_⟩
    have z : S.L.a = p := z
    exact sr.lp b hb (by rw [z]; exact e3)
  · by_cases hj : i = j
    · subst hj
      cases (set_at q).2
    · rw [List.getElem?_set_ne hj] at q
      obtain ⟨hg, v, q1, h⟩ := sr.val j g d q
      exact ⟨hg, v, q1, Rep.kp k (sub g hg) d v h⟩
  · by_cases hj : i = j
    · subst hj
      cases (set_at q).2
      exact ⟨p, us, eσ, upd_same, e3, e4, e5, Reps.kp k (sub 2 (by decide)) es us r⟩
    · rw [List.getElem?_set_ne hj] at q
      obtain ⟨p2, ws, q1, q2, q3, q4, q5, h⟩ := sr.own j fs q
      have ne : p2 ≠ p := fun z => hj (sr.inj i j ds fs p e q eσ (by rw [q1, z]))
      exact ⟨p2, ws, q1, by rw [upd_ne ne]; exact q2, q3, q4, q5, Reps.kp k (sub 2 (by decide)) fs ws h⟩
  · by_cases hj : i = j
    · subst hj
      cases (set_at q).2
    · rw [List.getElem?_set_ne hj] at q
      obtain ⟨z, x, dx, ws, q1, q2, q3, h⟩ := sr.ins j c fs q
      exact ⟨z, x, dx, ws, q1, by rw [upd_ne fun z => e5 (by rw [← z]; exact q3)]; exact q2, q3, Reps.kp k (sub 2 (by decide)) fs ws h⟩
  · have old : ∀ (j : Nat) (fs : List D), (τ.set i (.own es))[j]? = some (.own fs) → ∃ gs, τ[j]? = some (.own gs) := fun j fs q => by
      by_cases hj : i = j
      · subst hj; exact ⟨ds, e⟩
      · rw [List.getElem?_set_ne hj] at q; exact ⟨fs, q⟩
    obtain ⟨f1, g1⟩ := old j fs q1
    obtain ⟨f2, g2⟩ := old l gs q2
    exact sr.inj j l f1 f2 q g1 g2 q3 q4
  · have so := sr.st j x (set_sto (fun _ z => by cases z) q)
    exact (so.sit (S' := S) rfl (fun _ _ _ z => z) fun c o m z => z.to (upd_ne fun w => so.own c o m i ds e (by rw [w]; exact eσ)) (fun ds vs h => Reps.kp k (sub 2 (by decide)) ds vs h) fun b xs => sqT_kp k).setT fun _ c o m w => so.own c o m i ds e w
/-- a list of one's own is forgotten to be: it stays as it is -/
theorem SR.freeze {i : Nat} {ds : List D} (sr : SR K T S τ σ H) (e : τ[i]? = some (.own ds)) : ∃ P', SR K T { S with P := P' } (τ.set i (.v 2 (.lst ds))) σ H := by
  obtain ⟨p, vs, e1, e2, e3, e4, e5, r⟩ := sr.own i ds e
  have h0 : Nv S.H0 p := sr.fr p e3 e4 e5
  have nm : ¬ S.M p := fun z => h0 (sr.ml p z)
  have sub : ∀ g a, gset { S with P := fun a => S.P a ∧ a ≠ p } g a → gset S g a := fun g a z => match g, z with
    | 0, z => z
    | 1, z => z.1
    | _ + 2, z => Or.elim z (fun z => .inl z.1) .inr
  refine ⟨fun a => S.P a ∧ a ≠ p, by rw [List.length_set]; exact sr.len, fun a z => ⟨sr.bp a z, fun q => e4 (q ▸ z)⟩, fun a z => sr.al a z.1, sr.ml, sr.kp, fun a z => ⟨⟨(sr.xp a z).1, fun q => e5 (q ▸ z)⟩, (sr.xp a z).2⟩, fun a z => sr.fr a z.1, sr.bl, sr.bag, fun b z q => sr.lp b z q.1, fun j g d q => ?_, fun j fs q => ?_, fun j c fs q => ?_, fun x hx => ⟨(sr.gh x hx).1, Rep.anti (sub x.1) _ _ (sr.gh x hx).2⟩, fun j l fs gs q q1 q2 q3 q4 => ?_, fun j x q => ?_, fun j l x y q1 q2 => sr.su j l x y (set_sto (fun _ z => by cases z) q1) (set_sto (fun _ z => by cases z) q2)⟩
  · by_cases hj : i = j
    · subst hj
      cases (set_at q).2
      refine ⟨by decide, .ref p, e1, p, vs, rfl, e2, fun z => ?_, Reps.anti (sub 2) ds vs r⟩
      exact Or.elim z (fun z => z.2 rfl) nm
    · rw [List.getElem?_set_ne hj] at q
      obtain ⟨hg, v, q1, h⟩ := sr.val j g d q
      exact ⟨hg, v, q1, Rep.anti (sub g) d v h⟩
  · by_cases hj : i = j
    · subst hj
      cases (set_at q).2
    · rw [List.getElem?_set_ne hj] at q
      obtain ⟨p2, ws, q1, q2, q3, q4, q5, h⟩ := sr.own j fs q
      have ne : p2 ≠ p := fun z => hj (sr.inj i j ds fs p e q e1 (by rw [q1, z]))
      exact ⟨p2, ws, q1, q2, ⟨q3, ne⟩, q4, q5, Reps.anti (sub 2) fs ws h⟩
  · by_cases hj : i = j
    · subst hj
      cases (set_at q).2
    · rw [List.getElem?_set_ne hj] at q
      obtain ⟨z, x, dx, ws, q1, q2, q3, h⟩ := sr.ins j c fs q
      exact ⟨z, x, dx, ws, q1, q2, q3, Reps.anti (sub 2) fs ws h⟩
  · have old : ∀ (j : Nat) (fs : List D), (τ.set i (.v 2 (.lst ds)))[j]? = some (.own fs) → τ[j]? = some (.own fs) := fun j fs q => by
      by_cases hj : i = j
      · subst hj
        cases (set_at q).2
      · rw [List.getElem?_set_ne hj] at q; exact q
    exact sr.inj j l fs gs q (old j fs q1) (old l gs q2) q3 q4
  · have so := sr.st j x (set_sto (fun _ z => by cases z) q)
    exact (so.sit (S' := { S with P := fun a => S.P a ∧ a ≠ p }) rfl (fun c o m z => ⟨z, fun w => so.own c o m i ds e (by rw [w]; exact e1)⟩) fun c o m z => z.to rfl (fun ds vs h => Reps.anti (sub 2) ds vs h) fun _ _ h => h).setT fun h => by rcases h with ⟨_, h⟩ | ⟨_, _, h⟩ <;> cases h
end

/-! ### names set -/
@[simp] def setQ (i : Nat) (τ : DSt) (R : DSt → Prop) (sl : Sl) : Prop := match sl with
  | .v g d => Nat.ble 1 (up g d) = true ∧ R (τ.set i (.v (up g d) d))
  | .own ds => R (τ.set i (.v 2 (.lst ds)))
  | _ => False
@[simp] def setOQ (i : Nat) (τ : DSt) (R : DSt → Prop) (sl : Sl) : Prop := match sl with
  | .own ds => R (τ.set i (.own ds))
  | _ => False
@[simp] def dSet (i : Nat) (te : DTE) : DTS := fun D τ => te τ (setQ i τ D.nx)
@[simp] def dSetO (i : Nat) (te : DTE) : DTS := fun D τ => te τ (setOQ i τ D.nx)
@[simp] def dFrz (i : Nat) (t : DTS) : DTS := fun D τ => match τ[i]? with
  | some (.own ds) => t D (τ.set i (.v 2 (.lst ds)))
  | _ => t D τ
section
variable {X : Cx} {T : Tab} {e : Expr} {te : DTE} {pos pos' : Pos} {i : Nat} {x : Str}
theorem out_set {K : PySem.W.Frag} {S : Sit} {τ : DSt} {σ : L2.St} {H H1 : Hp} {DD : DEnds} {D : Ends} {v : V} {sl : Sl} (sr : SR K T S τ σ H) (a : Aft K T S H H1) (r : RepSl K T S H H1 sl v) (o : Out K T ek S DD D)
    (q : setQ i τ DD.nx sl) : D.nx (σ.set i (some v)) H1 := by
  cases sl with
  | v g d => exact o.nx S.P _ _ H1 ((sr.aft a).setV (Nat.le_of_ble_eq_true q.1) (RepG.up r)) q.2
  | own ds => exact o.nx S.P _ _ H1 ((sr.aft a).setV (g := 2) (d := .lst ds) (by decide) (r.g sr)) q
  | un => exact (show False from q).elim
  | ins c ds => exact (show False from q).elim
  | sto g => exact (show False from q).elim
theorem out_setO {K : PySem.W.Frag} {S : Sit} {τ : DSt} {σ : L2.St} {H H1 : Hp} {DD : DEnds} {D : Ends} {v : V} {sl : Sl} (sr : SR K T S τ σ H) (a : Aft K T S H H1) (r : RepSl K T S H H1 sl v) (o : Out K T ek S DD D)
    (q : setOQ i τ DD.nx sl) : D.nx (σ.set i (some v)) H1 := by
  cases sl with
  | own ds =>
    obtain ⟨p, vs, rfl, h1, h2, h3⟩ := r
    exact o.nx _ _ _ H1 (sr.setO a h1 h2 h3) q
  | _ => exact (show False from q).elim
theorem ds_set (hN : X.N.Nodup) (hi : X.N[i]? = some x) (hx : Loc X.env.scope x) (he : PE X e (UpE X.K T te)) (hs : swapsWith e (some (.Name x pos')) pos.line X.env = pure false := by rfl)
    (hf : X.fn x = true ∨ X.env.scope.names.lookup x = some .local := by first | exact .inl rfl | exact .inr rfl | assumption) : PS X (.Assign [.Name x pos'] e pos) (UpS X.K T ek (dSet i te)) :=
  (ps_set hN hi hx he hs hf).of fun D σ H ⟨S, τ, DD, sr, h, o⟩ => ⟨S, τ, _, sr, h, fun H1 v sl a r q => out_set sr a r o q⟩
theorem ds_setO (hN : X.N.Nodup) (hi : X.N[i]? = some x) (hx : Loc X.env.scope x) (he : PE X e (UpE X.K T te)) (hs : swapsWith e (some (.Name x pos')) pos.line X.env = pure false := by rfl)
    (hf : X.fn x = true ∨ X.env.scope.names.lookup x = some .local := by first | exact .inl rfl | exact .inr rfl | assumption) : PS X (.Assign [.Name x pos'] e pos) (UpS X.K T ek (dSetO i te)) :=
  (ps_set hN hi hx he hs hf).of fun D σ H ⟨S, τ, DD, sr, h, o⟩ => ⟨S, τ, _, sr, h, fun H1 v sl a r q => out_setO sr a r o q⟩
/-- ahead of statements: a list of one's own stays from now on as it is -/
theorem ds_frz {sts : List Stmt} {t : DTS} (h : PSs X sts (UpS X.K T ek t)) : PSs X sts (UpS X.K T ek (dFrz i t)) :=
  h.of fun D σ H ⟨S, τ, DD, sr, h, o⟩ => by
    unfold dFrz at h
    split at h
    · rename_i ds e
      obtain ⟨P', sr'⟩ := sr.freeze e
      exact ⟨{ S with P := P' }, _, DD, sr', h, ⟨fun P2 => o.nx P2, fun P2 => o.bk P2, fun P2 => o.ct P2, fun H2 v sl a b => o.rt H2 v sl a b, fun P2 => o.rb P2, o.er, fun P2 => o.rm P2, fun P2 => o.em P2⟩⟩
    · exact ⟨S, τ, DD, sr, h, o⟩
end

/-! ### targets -/
abbrev DTG := Nat → D → DSt → (DSt → Prop) → Prop
abbrev DTGs := Nat → List D → DSt → (DSt → Prop) → Prop
def UpG (K : PySem.W.Frag) (T : Tab) (t : DTG) : TG := fun v σ H Q => ∃ (S : Sit) (τ : DSt) (g : Nat) (d : D) (QD : DSt → Prop), SR K T S τ σ H ∧ RepG K T S g H d v ∧ t g d τ QD ∧ ∀ τ' σ' H', SR K T S τ' σ' H' → Kp S.P H H' → QD τ' → Q σ' H'
def UpGs (K : PySem.W.Frag) (T : Tab) (t : DTGs) : TGs := fun vs σ H Q => ∃ (S : Sit) (τ : DSt) (g : Nat) (ds : List D) (QD : DSt → Prop), SR K T S τ σ H ∧ 1 ≤ g ∧ RepsG K T S g H ds vs ∧ t g ds τ QD ∧ ∀ τ' σ' H', SR K T S τ' σ' H' → Kp S.P H H' → QD τ' → Q σ' H'
@[simp] def gN (i : Nat) : DTG := fun g d τ Q => Nat.ble 1 (up g d) = true ∧ Q (τ.set i (.v (up g d) d))
@[simp] def gsNil : DTGs := fun _ ds τ Q => match ds with
  | [] => Q τ
  | _ => False
@[simp] def gsCons (t : DTG) (u : DTGs) : DTGs := fun g ds τ Q => match ds with
  | d :: r => t g d τ fun τ1 => u g r τ1 Q
  | [] => False
@[simp] def gT (n : Nat) (t : DTGs) : DTG := fun g d τ Q => match d with
  | .tup ds => ds.length = n ∧ Nat.ble 1 (upl g ds) = true ∧ t (upl g ds) ds τ Q
  | _ => False
/-- a place of a list of one's own -/
@[simp] def gSub (i : Nat) (ti : DTE) : DTG := fun g d τ Q => match τ[i]? with
  | some (.own ds) => ti τ fun ix => match ix.d with
    | .int k => match ixN ds.length k with
      | some j => (Nat.ble 2 g || d.imm) = true ∧ Q (τ.set i (.own (ds.set j d)))
      | none => False
    | _ => False
  | _ => False
section
variable {X : Cx} {T : Tab} {pos : Pos} {i : Nat} {x : Str}
theorem dg_name (hN : X.N.Nodup) (hi : X.N[i]? = some x) (hx : Loc X.env.scope x) (hf : X.fn x = true ∨ X.env.scope.names.lookup x = some .local := by first | exact .inl rfl | exact .inr rfl | assumption) : PG X (.Name x pos) (UpG X.K T (gN i)) :=
  ⟨fun pins s σ H v u Q I r ⟨S, τ, g, d, QD, sr, rp, h, k⟩ => (pg_name hN hi hx hf).run pins s σ H v u Q I r (k _ _ H (sr.setV (Nat.le_of_ble_eq_true h.1) (RepG.up rp)) Kp.refl h.2)⟩
theorem dgs_nil : PGs X [] (UpGs X.K T gsNil) :=
  ⟨fun pins s σ H vs us Q I r ⟨S, τ, g, ds, QD, sr, hg, rp, h, k⟩ => pgs_nil.run pins s σ H vs us Q I r (by
    cases ds with
    | nil => exact ⟨rp, k τ σ H sr Kp.refl h⟩
    | cons d r => exact (show False from h).elim)⟩
theorem dgs_cons {e : Expr} {es : List Expr} {t : DTG} {u : DTGs} (h1 : PG X e (UpG X.K T t)) (h2 : PGs X es (UpGs X.K T u))
    (hs : (assignEach (e :: es) X.env).map (·.2) = assign e X.env :: (assignEach es X.env).map (·.2) := by rfl) : PGs X (e :: es) (UpGs X.K T (gsCons t u)) :=
  ⟨fun pins s σ H vs us Q I r ⟨S, τ, g, ds, QD, sr, hg, rp, h, k⟩ => (pgs_cons h1 h2 hs).run pins s σ H vs us Q I r (by
    cases ds with
    | nil => exact (show False from h).elim
    | cons d ds =>
      obtain ⟨v, vr, e1, r1, r2⟩ := rp
      have sub : ∀ a, S.P a → gset S g a := fun a z => match g, hg with
        | 1, _ => z
        | _ + 2, _ => .inl z
      exact ⟨v, vr, e1, S, τ, g, d, _, sr, r1, h, fun τ1 σ1 H1 s1 k1 q1 => ⟨S, τ1, g, ds, _, s1, hg, Reps.kp k1 sub ds vr r2, q1, fun τ2 σ2 H2 s2 k2 q2 => k τ2 σ2 H2 s2 (k1.trans k2) q2⟩⟩)⟩
theorem dg_tup {es : List Expr} {k1 : Nat} {t : DTGs} {n : Nat} (hc : X.calm = true) (h : PGs X es (UpGs X.K T t))
    (hn : (assignEach es X.env).length = n := by rfl) (hst : (assignEach es X.env).findIdx? (·.1) = none := by rfl) : PG X (.Tuple es k1 pos) (UpG X.K T (gT n t)) :=
  ⟨fun pins s σ H v u Q I r ⟨S, τ, g, d, QD, sr, rp, hw, k⟩ => (pg_tup hc h hn hst).run pins s σ H v u Q I r (by
    cases d with
    | tup ds =>
      obtain ⟨hl, hb, hw⟩ := hw
      obtain ⟨a, vs, e1, e2, rs⟩ := rp
      exact ⟨a, vs, e1, e2, by rw [rs.len]; exact hl, S, τ, _, ds, QD, sr, Nat.le_of_ble_eq_true hb, RepsG.upl rs, hw, k⟩
    | _ => exact (show False from hw).elim)⟩
end
end DL
/-! DL6: append, clear, +=; for, while; comprehensions. -/
namespace DL
open PySem PySem.Spec PyProof.Rows L2
@[simp] def dApp (i : Nat) (te : DTE) : DTS := fun D τ => match τ[i]? with
  | some (.own ds) => te τ fun sl => (Nat.ble 2 sl.g || sl.d.imm) = true ∧ ds.length < 1000000 ∧ D.nx (τ.set i (.own (ds ++ [sl.d])))
  | _ => False
/-- x.append(y.pop(0)) -/
@[simp] def dAppPop (i j : Nat) : DTS := fun D τ => match τ[i]?, τ[j]? with
  | some (.own ds), some (.own (e :: es)) => i ≠ j ∧ ds.length < 1000000 ∧ D.nx ((τ.set j (.own es)).set i (.own (ds ++ [e])))
  | _, _ => False
@[simp] def dClear (i : Nat) : DTS := fun D τ => match τ[i]? with
  | some (.own ds) => D.nx (τ.set i (.own []))
  | _ => False
@[simp] def dAug (i : Nat) (f : Int → Int → Int) (te : DTE) : DTS := fun D τ => match τ[i]? with
  | some (.v _ (.int a)) => te τ fun sl => match sl.d with
    | .int b => D.nx (τ.set i (.v 2 (.int (f a b))))
    | _ => False
  | _ => False
section
variable {X : Cx} {T : Tab} {e : Expr} {te : DTE} {pos p1 p2 p3 p4 : Pos} {i : Nat} {x : Str}
theorem rd_of {K : PySem.W.Frag} {S : Sit} {H : Hp} {g : Nat} {d : D} {v : V} (q : (Nat.ble 2 g || d.imm) = true) (r : RepG K T S g H d v) : RepG K T S 2 H d v := by
  rcases Bool.or_eq_true_iff.mp q with z | z
  · match g, z, r with
    | g + 2, _, r => exact r
  · exact Rep.imm d v z r
theorem ds_app {st : Stmt} (h : PS X st (tDrop (tBM X.K "list" rAppend (tVar i) (tCons (UpE X.K T te) tNil)))) : PS X st (UpS X.K T ek (dApp i te)) :=
  h.of fun D σ H ⟨S, τ, DD, sr, h, o⟩ => by
    unfold dApp at h
    split at h
    · rename_i ds et
      obtain ⟨p, vs, e1, e2, e3, e4, e5, rs⟩ := sr.own i ds et
      refine ⟨.ref p, e1, .inl ⟨rfl, _, SqL.of e2⟩, S, τ, _, sr, h, fun H2 w sl a r2 q => ?_⟩
      have s2 := sr.aft a
      obtain ⟨q1, q2, q3⟩ := q
      have f2 := a.kp.k p _ e2 e4
      have rd := rd_of q1 (r2.g sr)
      obtain ⟨s3, k3⟩ := s2.put (us := vs ++ [w]) et e1 (Reps.append (sr.reps a.kp rs) (Reps.one rd))
      exact ⟨p, vs, w, rfl, rfl, f2, by rw [rs.len]; exact Nat.lt_of_lt_of_le q2 (lim_le' (Nat.le_refl _)), o.nx S.P _ _ _ s3 q3⟩
    · exact h.elim
end

/-! ### loops -/
@[simp] def forRec (g : Nat) (tg : DTG) (tb : DTS) (E : DEnds) : List D → DSt → Prop
  | [], τ => E.nx τ
  | x :: xs, τ => tg (up g x) x τ fun τ1 => tb { E with nx := forRec g tg tb E xs, ct := forRec g tg tb E xs, bk := E.nx } τ1
@[simp] def dFor (te : DTE) (tg : DTG) (tb : DTS) : DTS := fun E τ => te τ fun sl => match elems sl.d with
  | some ds => Nat.ble 1 (up sl.g sl.d) = true ∧ forRec (up sl.g sl.d) tg tb E ds τ
  | none => False
@[simp] def rangeL (lo : Int) : Nat → List D
  | 0 => []
  | n + 1 => .int lo :: rangeL (lo + 1) n
@[simp] def dForR (ta : DTA) (tg : DTG) (tb : DTS) : DTS := fun E τ => ta τ fun _ ds => match ds with
  | [.int j] => (-(2 ^ 62) ≤ j ∧ j < 2 ^ 62) ∧ forRec 2 tg tb E (rangeL 0 j.toNat) τ
  | _ => False
@[simp] def dForR2 (ta : DTA) (tg : DTG) (tb : DTS) : DTS := fun E τ => ta τ fun _ ds => match ds with
  | [.int i, .int j] => (-(2 ^ 62) ≤ i ∧ i < 2 ^ 62 ∧ -(2 ^ 62) ≤ j ∧ j < 2 ^ 62) ∧ forRec 2 tg tb E (rangeL i (j - i).toNat) τ
  | _ => False
def iSeq (K : PySem.W.Frag) (tl : TE) : TI := fun σ H R => tl σ H fun x H1 => ∃ a, x = .ref a ∧ (((∃ xs, SqL K H1 a xs) ∧ R (Itl K a) H1) ∨ ((∃ xs, SqT K H1 a xs) ∧ R (Itt K a) H1))
section
variable {X : Cx} {tg : Expr}
theorem pi_seq {l : Expr} {tl : TE} (hl : PE X l tl) : PI X tg l (iSeq X.K tl) := by
  refine ⟨fun pins s σ H R I h => ?_⟩
  refine thn (hl.run pins s σ H _ I h) fun v s1 ⟨x, H1, I1, r1, q1⟩ => ?_
  obtain ⟨a, e, q⟩ := q1
  subst e
  cases r1
  rcases q with ⟨⟨xs, hq⟩, q⟩ | ⟨⟨xs, hq⟩, q⟩
  · obtain ⟨its, rv, p, hz⟩ := I1.list hq
    refine wpAny_pyIter_list p.isList ?_
    refine ⟨s1.heap.objs.size, [s1.heap.objs.size], _, _, H1, rfl, I1.kept (t' := s1.toks) fun b o e => Heap.get?_push_of_some _ e, turn_list a _, ⟨_, Heap.get?_push_size _ rfl, rfl, rfl⟩, fun b hb => ?_, q⟩
    have e : b = s1.heap.objs.size := by simpa using hb
    subst e
    exact I1.fpOk (Nat.le_refl _) (I1.hok.fresh (Nat.le_refl _))
  · obtain ⟨its, rv, p, hz⟩ := I1.tuple hq
    refine wpAny_pyIter_tuple (show s1.heap.IsTuple a its.toArray from p) ?_
    refine ⟨s1.heap.objs.size, [s1.heap.objs.size], _, _, H1, rfl, I1.kept (t' := s1.toks) fun b o e => Heap.get?_push_of_some _ e, turn_tuple a _, ⟨_, Heap.get?_push_size _ rfl, rfl, rfl⟩, fun b hb => ?_, q⟩
    have e : b = s1.heap.objs.size := by simpa using hb
    subst e
    exact I1.fpOk (Nat.le_refl _) (I1.hok.fresh (Nat.le_refl _))
end
section
variable {K : PySem.W.Frag} {T : Tab} {S : Sit} {τ : DSt} {σ : L2.St} {H H' : Hp}
theorem SR.gho (sr : SR K T S τ σ H) {g : Nat} {d : D} {v : V} (hg : 1 ≤ g) (r : RepG K T S g H d v) : SR K T { S with G := (g, d, v) :: S.G } τ σ H :=
  ⟨sr.len, sr.bp, sr.al, sr.ml, sr.kp, sr.xp, sr.fr, sr.bl, sr.bag, sr.lp, sr.val, sr.own, sr.ins, fun x hx => by
    rcases List.mem_cons.mp hx with e | hx
    · rw [e]; exact ⟨hg, r⟩
    · exact sr.gh x hx, sr.inj, fun i x e => (sr.st i x e).sit rfl (fun _ _ _ z => z) fun _ _ _ z => z.to rfl (fun _ _ h => h) fun _ _ h => h, sr.su⟩
theorem SR.ungh {g : Nat} {d : D} {v : V} {G : List (Nat × D × V)} (sr : SR K T { S with G := (g, d, v) :: G } τ σ H) : SR K T { S with G := G } τ σ H :=
  ⟨sr.len, sr.bp, sr.al, sr.ml, sr.kp, sr.xp, sr.fr, sr.bl, sr.bag, sr.lp, sr.val, sr.own, sr.ins, fun x hx => sr.gh x (List.mem_cons_of_mem _ hx), sr.inj, fun i x e => (sr.st i x e).sit (S' := { S with G := G }) rfl (fun _ _ _ z => z) fun _ _ _ z => z.to rfl (fun _ _ h => h) fun _ _ h => h, sr.su⟩
theorem RepG.pp {P' : Addr → Prop} {G' : List (Nat × D × V)} {g : Nat} {d : D} {v : V} (h : RepG K T { S with P := P', G := G' } g H d v) : RepG K T { S with P := P' } g H d v := by
  match g, h with
  | 0, h => exact h
  | 1, h => exact h
  | g + 2, h => exact h
end
section
variable {X : Cx} {T : Tab} {iter tg : Expr} {body : List Stmt} {te : DTE} {tgd : DTG} {tb : DTS} {pos : Pos}
/-- the turns of a for, over whatever yields the data ds while C stands -/
theorem for_core {K : PySem.W.Frag} {S : Sit} {J : It} {ds : List D} {g : Nat} {C : (Addr → Prop) → Hp → Prop} {DD : DEnds} {E : Ends} {H1 : Hp} {τ : DSt} {σ : L2.St} {G : List (Nat × D × V)}
    (hdrop : ∀ P' τ' σ' H', SR K T { S with P := P', G := G } τ' σ' H' → SR K T { S with P := P' } τ' σ' H') (hC : ∀ P' τ' σ' H', SR K T { S with P := P', G := G } τ' σ' H' → C P' H')
    (hgo : ∀ P' i H', i < ds.length → C P' H' → J.go i H') (hy : ∀ P' i H' x H'', C P' H' → J.yld i H' x H'' → (Kp (fun _ => False) H' H'' ∧ Tk H' H'') ∧ ∀ d, ds[i]? = some d → RepG K T { S with P := P' } g H'' d x) (hstop : ∀ P' H', C P' H' → J.stop ds.length H')
    (sr : SR K T { S with G := G } τ σ H1) (q : forRec g tgd tb DD ds τ) (o : Out K T ek S DD E) :
    ∃ W : Nat → Nat → L2.St → Hp → Prop, (∃ m, W 0 m σ H1) ∧ ∀ i m σ H, W i m σ H →
      (J.stop i H ∧ E.nx σ H) ∨ (J.go i H ∧ ∃ N : L2.St → Hp → Prop, (∀ σ' H', N σ' H' → ∃ m', m' < m ∧ W (i + 1) m' σ' H') ∧ ∀ x H', J.yld i H x H' → UpG K T tgd x σ H' fun σ2 H2 => UpS K T ek tb { E with nx := N, ct := N, bk := E.nx } σ2 H2) := by
  refine ⟨fun i m σ' H' => m = ds.length - i ∧ i ≤ ds.length ∧ ∃ P' τ', SR K T { S with P := P', G := G } τ' σ' H' ∧ forRec g tgd tb DD (ds.drop i) τ', ⟨ds.length, rfl, Nat.zero_le _, S.P, τ, sr, q⟩, ?_⟩
  rintro i m σ' H' ⟨rfl, hi, P', τ', s', q'⟩
  by_cases hlt : i < ds.length
  · rw [List.drop_eq_getElem_cons hlt] at q'
    refine .inr ⟨hgo P' i H' hlt (hC _ _ _ _ s'), fun σ2 H2 => ∃ P2 τ2, SR K T { S with P := P2, G := G } τ2 σ2 H2 ∧ forRec g tgd tb DD (ds.drop (i + 1)) τ2, fun σ2 H2 ⟨P2, τ2, s2, q2⟩ => ⟨ds.length - (i + 1), by omega, rfl, hlt, P2, τ2, s2, q2⟩, fun x H2 y => ?_⟩
    obtain ⟨⟨kk, tk⟩, hr⟩ := hy P' i H' x H2 (hC _ _ _ _ s') y
    have hr := hr ds[i] (List.getElem?_eq_getElem hlt)
    have s2' := s'.aft ⟨kk.mono fun _ z => z.elim, s'.bag.kp0 kk tk⟩
    have hr2 : RepG K T { S with P := P', G := G } (up g ds[i]) H2 ds[i] x := by
      refine RepG.up (S := { S with P := P', G := G }) ?_
      match g, hr with
      | 0, h => exact h
      | 1, h => exact h
      | g + 2, h => exact h
    refine ⟨{ S with P := P', G := G }, τ', _, ds[i], _, s2', hr2, q', fun τ3 σ3 H3 s3 _ q3 => ⟨{ S with P := P', G := G }, τ3, _, s3, q3, ⟨fun P4 τ4 σ4 H4 s4 q4 => ⟨P4, τ4, s4, q4⟩, fun P4 τ4 σ4 H4 s4 q4 => o.nx P4 τ4 σ4 H4 (hdrop _ _ _ _ s4) q4, fun P4 τ4 σ4 H4 s4 q4 => ⟨P4, τ4, s4, q4⟩, fun H4 v sl a b => o.rt H4 v sl a b, fun P4 τ4 σ4 H4 d v s4 sc q4 => o.rb P4 τ4 σ4 H4 d v (hdrop _ _ _ _ s4) sc q4, o.er, fun P4 τ4 σ4 H4 v sl s4 r4 q4 => o.rm P4 τ4 σ4 H4 v sl (hdrop _ _ _ _ s4) (RepM.dropG r4) q4, fun P4 τ4 σ4 H4 er cls d s4 e4 q4 => o.em P4 τ4 σ4 H4 er cls d (hdrop _ _ _ _ s4) e4 q4⟩⟩⟩
  · have e : i = ds.length := by omega
    subst e
    rw [List.drop_length] at q'
    exact .inl ⟨hstop P' H' (hC _ _ _ _ s'), o.nx P' τ' σ' H' (hdrop _ _ _ _ s') q'⟩
theorem ds_for (hp : PassesOwn (model X.prog X.w) X.A X.env X.xe) (hc : X.calm = true) (hi : PE X iter (UpE X.K T te)) (hg : PG X tg (UpG X.K T tgd)) (hb : PSs X body (UpS X.K T ek tb))
    (hs : ∀ x, foldedSetIterable iter X.env x = pure x := by intro _; rfl) : PS X (.For tg iter body [] pos) (UpS X.K T ek (dFor te tgd tb)) :=
  (ps_for hp hc (pi_seq hi) hg hb hs).of fun E σ H ⟨S, τ, DD, sr, h, o⟩ => ⟨S, τ, _, sr, h, fun H1 v sl a r q => by
    have s1 := sr.aft a
    have rg := RepG.up (r.g sr)
    generalize hgg : up sl.g sl.d = gg at rg q
    have hcl : ∀ {P' : Addr → Prop} {τ' : DSt} {σ' : L2.St} {H' : Hp}, SR X.K T { S with P := P', G := (gg, sl.d, v) :: S.G } τ' σ' H' → RepG X.K T { S with P := P' } gg H' sl.d v := fun {P' τ' σ' H'} z => by
      have w := (z.gh _ List.mem_cons_self).2
      match gg, w with
      | 0, h => exact h
      | 1, h => exact h
      | g + 2, h => exact h
    have hdr : ∀ P' τ' σ' H', SR X.K T { S with P := P', G := (gg, sl.d, v) :: S.G } τ' σ' H' → SR X.K T { S with P := P' } τ' σ' H' := fun P' τ' σ' H' z => SR.ungh (S := { S with P := P' }) z
    cases sd : sl.d with
    | lst es =>
      rw [sd] at q rg hcl hdr
      obtain ⟨hg1, q⟩ := q
      have s2 := s1.gho (Nat.le_of_ble_eq_true hg1) rg
      obtain ⟨p, vs, rfl, e1, e2, rs⟩ := rg
      refine ⟨p, rfl, .inl ⟨⟨vs, SqL.of e1⟩, for_core (C := fun P' H' => RepG X.K T { S with P := P' } gg H' (.lst es) (.ref p)) hdr (fun P' τ' σ' H' z => hcl z) (fun P' i H' hi ⟨p2, us, e, f1, f2, f3⟩ => ?_) (fun P' i H' x H'' ⟨p2, us, e, f1, f2, f3⟩ ⟨y1, y2⟩ => ⟨(by rw [y1]; exact ⟨Kp.refl, Tk.refl⟩), fun d hd => ?_⟩) (fun P' H' ⟨p2, us, e, f1, f2, f3⟩ => ?_) s2 q o⟩⟩
      · cases e
        obtain ⟨w, ew, _⟩ := f3.get (List.getElem?_eq_getElem hi)
        exact ⟨us, w, SqL.of f1, ew⟩
      · cases e
        obtain ⟨w, ew, rw'⟩ := f3.get hd
        have := y2 us (SqL.of f1)
        rw [ew] at this
        cases this
        rw [y1]
        exact rw'
      · cases e
        exact ⟨us, SqL.of f1, by rw [f3.len]; exact Nat.le_refl _⟩
    | tup es =>
      rw [sd] at q rg hcl hdr
      obtain ⟨hg1, q⟩ := q
      have s2 := s1.gho (Nat.le_of_ble_eq_true hg1) rg
      obtain ⟨p, vs, rfl, e1, rs⟩ := rg
      refine ⟨p, rfl, .inr ⟨⟨vs, e1⟩, for_core (C := fun P' H' => RepG X.K T { S with P := P' } gg H' (.tup es) (.ref p)) hdr (fun P' τ' σ' H' z => hcl z) (fun P' i H' hi ⟨p2, us, e, f1, f3⟩ => ?_) (fun P' i H' x H'' ⟨p2, us, e, f1, f3⟩ ⟨y1, y2⟩ => ⟨(by rw [y1]; exact ⟨Kp.refl, Tk.refl⟩), fun d hd => ?_⟩) (fun P' H' ⟨p2, us, e, f1, f3⟩ => ?_) s2 q o⟩⟩
      · cases e
        obtain ⟨w, ew, _⟩ := f3.get (List.getElem?_eq_getElem hi)
        exact ⟨us, w, f1, ew⟩
      · cases e
        obtain ⟨w, ew, rw'⟩ := f3.get hd
        have := y2 us f1
        rw [ew] at this
        cases this
        rw [y1]
        exact rw'
      · cases e
        exact ⟨us, f1, by rw [f3.len]; exact Nat.le_refl _⟩
    | _ => rw [sd] at q; exact (show False from q).elim⟩
end
end DL
/-! DL7: for over a range, while, comprehensions. -/
namespace DL
open PySem PySem.Spec PyProof.Rows L2
theorem rangeL_len : ∀ (n : Nat) (lo : Int), (rangeL lo n).length = n
  | 0, _ => rfl
  | n + 1, lo => by rw [rangeL, List.length_cons, rangeL_len n]
theorem rangeL_get : ∀ (n : Nat) (lo : Int) (i : Nat) (d : D), (rangeL lo n)[i]? = some d → d = .int (lo + i)
  | 0, _, _, _, h => by simp [rangeL] at h
  | n + 1, lo, 0, d, h => by
    simp [rangeL] at h
    rw [← h]; simp
  | n + 1, lo, i + 1, d, h => by
    rw [rangeL, List.getElem?_cons_succ] at h
    rw [rangeL_get n (lo + 1) i d h]
    congr 1
    omega
section
variable {X : Cx} {T : Tab} {tg a b : Expr} {body : List Stmt} {ta : DTA} {tgd : DTG} {tb : DTS} {pos p1 p2 : Pos}
theorem range_core {S : Sit} {lo : Int} {n : Nat} {DD : DEnds} {E : Ends} {H1 : Hp} {τ : DSt} {σ : L2.St} (sr : SR X.K T S τ σ H1) (q : forRec 2 tgd tb DD (rangeL lo n) τ) (o : Out X.K T ek S DD E) :
    ∃ W : Nat → Nat → L2.St → Hp → Prop, (∃ m, W 0 m σ H1) ∧ ∀ i m σ H, W i m σ H →
      ((Itr lo n).stop i H ∧ E.nx σ H) ∨ ((Itr lo n).go i H ∧ ∃ N : L2.St → Hp → Prop, (∀ σ' H', N σ' H' → ∃ m', m' < m ∧ W (i + 1) m' σ' H') ∧ ∀ x H', (Itr lo n).yld i H x H' → UpG X.K T tgd x σ H' fun σ2 H2 => UpS X.K T ek tb { E with nx := N, ct := N, bk := E.nx } σ2 H2) :=
  for_core (G := S.G) (C := fun _ _ => True) (fun _ _ _ _ z => z) (fun _ _ _ _ _ => trivial) (fun _ i _ hi _ => by rw [rangeL_len] at hi; exact hi) (fun _ i _ x _ _ y => ⟨(by rw [y.1]; exact ⟨Kp.refl, Tk.refl⟩), fun d hd => by
    rw [rangeL_get n lo i d hd, y.2]
    exact rfl⟩) (fun _ _ _ => by
    show n ≤ (rangeL lo n).length
    rw [rangeL_len]; exact Nat.le_refl _) sr q o
theorem ds_for1 (hp : PassesOwn (model X.prog X.w) X.A X.env X.xe) (hc : X.calm = true) (hg0 : Gl X "range") (hm : X.mg "range" = none) (ha : PA X [a] (UpA X.K T ta)) (hg : PG X tg (UpG X.K T tgd)) (hb : PSs X body (UpS X.K T ek tb))
    (hs : starEach [a] X.env = [(false, eval a X.env)] := by rfl) (hf : ∀ x, foldedSetIterable (.Call (.Name "range" p1) [a] [] p2) X.env x = pure x := by intro _; rfl) : PS X (.For tg (.Call (.Name "range" p1) [a] [] p2) body [] pos) (UpS X.K T ek (dForR ta tgd tb)) :=
  (ps_for hp hc (pi_range1 hg0 hm ha hs) hg hb hf).of fun E σ H ⟨S, τ, DD, sr, h, o⟩ => ⟨S, τ, _, sr, h, fun H1 vs g ds a r q => by
    split at q
    · rename_i j
      obtain ⟨v, rfl, r0⟩ := r.one'
      obtain ⟨⟨q1, q2⟩, q⟩ := q
      exact ⟨j, by rw [show v = V.int j from r0], q1, q2, range_core (sr.aft a) q o⟩
    · exact q.elim⟩
def dWhile (c : DTT) (tb : DTS) : DTS := fun E τ => ∃ I : Nat → DSt → Prop, (∃ m, I m τ) ∧ ∀ m τ, I m τ → c τ fun b => if b = true then tb { E with nx := fun τ' => ∃ m', m' < m ∧ I m' τ', ct := fun τ' => ∃ m', m' < m ∧ I m' τ', bk := E.nx } τ else E.nx τ
end

/-! ### comprehensions -/
@[simp] def wipeD (τ : DSt) : List Nat → DSt
  | [] => τ
  | v :: vs => (wipeD τ vs).set v .un
@[simp] def compRec (g : Nat) (tg : DTG) (tt : DTT) (te : DTE) (τ : DSt) (Q : Sl → Prop) : List D → List D → Prop
  | [], acc => Q (.own acc)
  | x :: xs, acc => tg (up g x) x τ fun τ1 => tt τ1 fun b => if b = true then te τ1 fun sl => (Nat.ble 2 sl.g || sl.d.imm) = true ∧ acc.length < 1000000 ∧ compRec g tg tt te τ Q xs (acc ++ [sl.d]) else compRec g tg tt te τ Q xs acc
@[simp] def dLc (ts : DTE) (tg : DTG) (tt : DTT) (te : DTE) (vs : List Nat) : DTE := fun τ Q => ts τ fun sl => match elems sl.d with
  | some ds => compRec sl.g tg tt te (wipeD τ vs) Q ds []
  | none => False
@[simp] def tYesD : DTT := fun _ Q => Q true
/-- a target of a comprehension: its own names alone -/
def UpGw (K : PySem.W.Frag) (T : Tab) (vs : List Nat) (t : DTG) : TG := fun v σ H Q => ∃ (S : Sit) (τ : DSt) (g : Nat) (d : D) (QD : DSt → Prop), SR K T S τ σ H ∧ RepG K T S g H d v ∧ t g d τ QD ∧ ∀ τ' σ', SR K T S τ' σ' H → wipe σ' vs = wipe σ vs → QD τ' → Q σ' H
def UpGsw (K : PySem.W.Frag) (T : Tab) (vs : List Nat) (t : DTGs) : TGs := fun us σ H Q => ∃ (S : Sit) (τ : DSt) (g : Nat) (ds : List D) (QD : DSt → Prop), SR K T S τ σ H ∧ RepsG K T S g H ds us ∧ t g ds τ QD ∧ ∀ τ' σ', SR K T S τ' σ' H → wipe σ' vs = wipe σ vs → QD τ' → Q σ' H
theorem wipe_set {i : Nat} {x : Option V} : ∀ {vs : List Nat} {σ : L2.St}, i ∈ vs → wipe (σ.set i x) vs = wipe σ vs
  | [], _, h => by cases h
  | v :: vs, σ, h => by
    show (wipe (σ.set i x) vs).set v none = (wipe σ vs).set v none
    rcases List.mem_cons.mp h with e | h
    · subst e
      have key : ∀ (us : List Nat), (wipe (σ.set i x) us).set i none = (wipe σ us).set i none := by
        intro us
        induction us with
        | nil => show (σ.set i x).set i none = σ.set i none; rw [List.set_set]
        | cons u us ih =>
          show ((wipe (σ.set i x) us).set u none).set i none = ((wipe σ us).set u none).set i none
          by_cases hu : u = i
          · subst hu; rw [List.set_set, List.set_set]; exact ih
          · rw [List.set_comm _ _ hu, ih, List.set_comm _ _ hu]
      exact key vs
    · rw [wipe_set h]
theorem wipe_wipe (σ : L2.St) (vs : List Nat) : wipe (wipe σ vs) vs = wipe σ vs := by
  have key : ∀ (us : List Nat), (∀ u ∈ us, u ∈ vs) → wipe (wipe σ us) vs = wipe σ vs := by
    intro us
    induction us with
    | nil => intro _; rfl
    | cons u us ih =>
      intro h
      show wipe ((wipe σ us).set u none) vs = _
      rw [wipe_set (h u List.mem_cons_self)]
      exact ih fun w hw => h w (List.mem_cons_of_mem _ hw)
  exact key vs fun _ h => h
section
variable {K : PySem.W.Frag} {T : Tab} {S : Sit} {τ : DSt} {σ : L2.St} {H H' : Hp}
theorem SR.forget (sr : SR K T S τ σ H) (i : Nat) : SR K T S (τ.set i .un) (σ.set i none) H := by
  have ne : ∀ {j : Nat} {s : Sl}, s ≠ .un → (τ.set i .un)[j]? = some s → i ≠ j ∧ τ[j]? = some s := fun {j s} hs e => by
    by_cases hj : i = j
    · subst hj
      exact absurd (set_at e).2 hs
    · rw [List.getElem?_set_ne hj] at e
      exact ⟨hj, e⟩
  refine ⟨by rw [List.length_set, List.length_set]; exact sr.len, sr.bp, sr.al, sr.ml, sr.kp, sr.xp, sr.fr, sr.bl, sr.bag, sr.lp, fun j g d e => ?_, fun j ds e => ?_, fun j c ds e => ?_, sr.gh, fun j k ds es p e1 e2 e3 e4 => ?_, fun j x e => (sr.st j x (set_sto (fun _ z => by cases z) e)).set fun _ _ _ h => (by rcases h with ⟨_, h⟩ | ⟨_, _, h⟩ <;> cases h), fun j l x y q1 q2 => sr.su j l x y (set_sto (fun _ z => by cases z) q1) (set_sto (fun _ z => by cases z) q2)⟩
  · obtain ⟨hj, e⟩ := ne (by intro z; cases z) e
    obtain ⟨h1, v, h2, h3⟩ := sr.val j g d e
    exact ⟨h1, v, by rw [List.getElem?_set_ne hj]; exact h2, h3⟩
  · obtain ⟨hj, e⟩ := ne (by intro z; cases z) e
    obtain ⟨p, vs, h1, h2⟩ := sr.own j ds e
    exact ⟨p, vs, by rw [List.getElem?_set_ne hj]; exact h1, h2⟩
  · obtain ⟨hj, e⟩ := ne (by intro z; cases z) e
    obtain ⟨z, p, dx, vs, h1, h2⟩ := sr.ins j c ds e
    exact ⟨z, p, dx, vs, by rw [List.getElem?_set_ne hj]; exact h1, h2⟩
  · obtain ⟨hj, e1⟩ := ne (by intro z; cases z) e1
    obtain ⟨hk, e2⟩ := ne (by intro z; cases z) e2
    rw [List.getElem?_set_ne hj] at e3
    rw [List.getElem?_set_ne hk] at e4
    exact sr.inj j k ds es p e1 e2 e3 e4
theorem SR.wiped (sr : SR K T S τ σ H) : ∀ vs : List Nat, SR K T S (wipeD τ vs) (wipe σ vs) H
  | [] => sr
  | v :: vs => (sr.wiped vs).forget v
/-- a new list that no slot holds -/
theorem SR.addP {p : Addr} {o : HO} (sr : SR K T S τ σ H) (hp : H p = none) (ho : noT o := by intro ps z; cases z) : SR K T { S with P := fun a => S.P a ∨ a = p } τ σ (upd H p o) := by
  have np : ¬ S.P p := sr.newP (nl hp)
  have nb : S.B ≠ some p := fun z => np (sr.bp p z)
  have a := sr.laid (o := o) hp
  have s1 := sr.aft a
  have sub : ∀ g c, gset { S with P := fun a => S.P a ∨ a = p } g c → gset S g c ∨ c = p := fun g c z => match g, z with
    | 0, z => .inl z
    | 1, z => z
    | _ + 2, z => Or.elim z (fun z => Or.elim z (fun z => .inl (.inl z)) .inr) fun z => .inl (.inr z)
  have gg : ∀ (g : Nat) (d : D) (v : V), RepG K T S g H d v → Rep K T S.B (gset { S with P := fun a => S.P a ∨ a = p } g) (upd H p o) d v := fun g d v q =>
    Rep.anti (sub g) d v (Rep.kp a.kp (fun c z => .inl (sr.gsub g c z)) d v (Rep.new (nl hp) d v q))
  have ggs : ∀ (ds : List D) (vs : List V), RepsG K T S 2 H ds vs → Reps K T S.B (gset { S with P := fun a => S.P a ∨ a = p } 2) (upd H p o) ds vs := fun ds vs q =>
    Reps.anti (sub 2) ds vs (Reps.kp a.kp (fun c z => .inl (sr.gsub 2 c z)) ds vs (Reps.new (nl hp) ds vs q))
  refine ⟨sr.len, fun c z => .inl (sr.bp c z), fun c z => ?_, sr.ml, s1.kp, fun c z => ⟨.inl (sr.xp c z).1, (sr.xp c z).2⟩, fun c z q q' => ?_, sr.bl, a.bag, fun b e z => ?_, fun j g d e => ?_, fun j es e => ?_, fun j c es e => ?_, fun x hx => ⟨(sr.gh x hx).1, gg _ _ _ (sr.gh x hx).2⟩, sr.inj, fun j x e => (sr.st j x e).sit (S' := { S with P := fun a => S.P a ∨ a = p }) rfl (fun _ _ _ z => .inl z) fun c o' m z => z.to (a.kp.same z.lv ((sr.st j x e).rep c o' m).2.1) (fun ds vs => ggs ds vs) fun b xs => sqT_kp a.kp, sr.su⟩
  · rcases z with z | z
    · exact s1.al c z
    · rw [z]; exact Lv.of upd_same ho
  · rcases z with z | z
    · exact sr.fr c z q q'
    · rw [z]; exact sr.new0 (nl hp)
  · rcases z with z | z
    · exact sr.lp b e z
    · obtain ⟨_, ns, _, _, _, _, _, h2, _⟩ := sr.bag.bg b e
      rw [z, hp] at h2; cases h2
  · obtain ⟨h1, v, h2, h3⟩ := sr.val j g d e
    exact ⟨h1, v, h2, gg g d v h3⟩
  · obtain ⟨q, ws, e1, e2, e3, e4, e5, h⟩ := sr.own j es e
    exact ⟨q, ws, e1, a.kp.k q _ e2 e4, .inl e3, e4, e5, ggs es ws h⟩
  · obtain ⟨z, q, dx, ws, e1, e2, e3, h⟩ := sr.ins j c es e
    exact ⟨z, q, dx, ws, e1, a.kp.k q _ e2 (sr.xp q e3).2 insO_noT, e3, ggs es ws h⟩
/-- a list that no slot holds is changed -/
theorem SR.wr {p : Addr} {vs us : List V} (sr : SR K T S τ σ H) (e3 : S.P p) (e4 : S.B ≠ some p) (e5 : ¬ S.X p) (e2 : H p = some (.lst vs)) (no : ∀ (i : Nat) (ds : List D), τ[i]? = some (.own ds) → σ[i]? ≠ some (some (.ref p))) (ns : ∀ (i : Nat) (g : SO), τ[i]? = some (.sto g) → ∀ o, g.g p ≠ some o) :
    SR K T S τ σ (upd H p (.lst us)) ∧ Kp S.P H (upd H p (.lst us)) := by
  have k : Kp S.P H (upd H p (.lst us)) := Kp.write e3 e2
  have h0 : Nv S.H0 p := sr.fr p e3 e4 e5
  have sub : ∀ g, 1 ≤ g → ∀ a, S.P a → gset S g a := fun g hg a z => match g, hg with
    | 1, _ => z
    | _ + 2, _ => .inl z
  refine ⟨⟨sr.len, sr.bp, fun a h => k.s a (sr.al a h), sr.ml, ⟨fun a o h n tt => ?_, fun a xs h => k.t a xs (sr.kp.t a xs h), fun a o u h => k.z a o u (sr.kp.z a o u h), fun a h => k.s a (sr.kp.s a h)⟩, sr.xp, sr.fr, sr.bl, ?_, sr.lp, fun j g d q => ?_, fun j fs q => ?_, fun j c fs q => ?_, fun x hx => ⟨(sr.gh x hx).1, Rep.kp k (sub x.1 (sr.gh x hx).1) _ _ (sr.gh x hx).2⟩, sr.inj, fun j x e => (sr.st j x e).sit (S' := S) rfl (fun _ _ _ z => z) fun c o' m z => z.to (upd_ne fun w => ns j x e o' (by rw [← w]; exact m)) (fun ds vs h => Reps.kp k (sub 2 (by decide)) ds vs h) fun b xs => sqT_kp k, sr.su⟩, k⟩
  · have ne : a ≠ p := fun z => h0 (Lv.of (z ▸ h) tt)
    rw [upd_ne ne]
    exact sr.kp.k0 a o h n tt
  · refine sr.bag.kp (N := fun a => a = p) (Kp.write rfl e2) (Tk.write e2 (fun _ z => by cases z) fun _ z => by cases z) fun b hb => ⟨fun z => e4 (z ▸ hb), fun z => ?_⟩
    have z : S.L.a = p := z
    exact sr.lp b hb (by rw [z]; exact e3)
  · obtain ⟨hg, v, q1, h⟩ := sr.val j g d q
    exact ⟨hg, v, q1, Rep.kp k (sub g hg) d v h⟩
  · obtain ⟨p2, ws, q1, q2, q3, q4, q5, h⟩ := sr.own j fs q
    have ne : p2 ≠ p := fun z => no j fs q (by rw [q1, z])
    exact ⟨p2, ws, q1, by rw [upd_ne ne]; exact q2, q3, q4, q5, Reps.kp k (sub 2 (by decide)) fs ws h⟩
  · obtain ⟨z, x, dx, ws, q1, q2, q3, h⟩ := sr.ins j c fs q
    exact ⟨z, x, dx, ws, q1, by rw [upd_ne fun z => e5 (by rw [← z]; exact q3)]; exact q2, q3, Reps.kp k (sub 2 (by decide)) fs ws h⟩
end
section
variable {X : Cx} {T : Tab} {pos : Pos} {i : Nat} {x : Str} {vs : List Nat}
theorem dgw_name (hm : i ∈ vs) (hN : X.N.Nodup) (hi : X.N[i]? = some x) (hx : Loc X.env.scope x) (hf : X.fn x = true ∨ X.env.scope.names.lookup x = some .local := by first | exact .inl rfl | exact .inr rfl | assumption) : PG X (.Name x pos) (UpGw X.K T vs (gN i)) :=
  ⟨fun pins s σ H v u Q I r ⟨S, τ, g, d, QD, sr, rp, h, k⟩ => (pg_name hN hi hx hf).run pins s σ H v u Q I r (k _ _ (sr.setV (Nat.le_of_ble_eq_true h.1) (RepG.up rp)) (wipe_set hm) h.2)⟩
theorem dgsw_nil : PGs X [] (UpGsw X.K T vs gsNil) :=
  ⟨fun pins s σ H us u Q I r ⟨S, τ, g, ds, QD, sr, rp, h, k⟩ => pgs_nil.run pins s σ H us u Q I r (by
    cases ds with
    | nil => exact ⟨rp, k τ σ sr rfl h⟩
    | cons d r => exact (show False from h).elim)⟩
theorem dgsw_cons {e : Expr} {es : List Expr} {t : DTG} {u : DTGs} (h1 : PG X e (UpGw X.K T vs t)) (h2 : PGs X es (UpGsw X.K T vs u))
    (hs : (assignEach (e :: es) X.env).map (·.2) = assign e X.env :: (assignEach es X.env).map (·.2) := by rfl) : PGs X (e :: es) (UpGsw X.K T vs (gsCons t u)) :=
  ⟨fun pins s σ H us u Q I r ⟨S, τ, g, ds, QD, sr, rp, h, k⟩ => (pgs_cons h1 h2 hs).run pins s σ H us u Q I r (by
    cases ds with
    | nil => exact (show False from h).elim
    | cons d ds =>
      obtain ⟨v, vr, e1, r1, r2⟩ := rp
      exact ⟨v, vr, e1, S, τ, g, d, _, sr, r1, h, fun τ1 σ1 s1 w1 q1 => ⟨S, τ1, g, ds, _, s1, r2, q1, fun τ2 σ2 s2 w2 q2 => k τ2 σ2 s2 (w2.trans w1) q2⟩⟩)⟩
theorem dgw_tup {es : List Expr} {k1 : Nat} {t : DTGs} {n : Nat} (hc : X.calm = true) (h : PGs X es (UpGsw X.K T vs t))
    (hn : (assignEach es X.env).length = n := by rfl) (hst : (assignEach es X.env).findIdx? (·.1) = none := by rfl) : PG X (.Tuple es k1 pos) (UpGw X.K T vs (gT n t)) :=
  ⟨fun pins s σ H v u Q I r ⟨S, τ, g, d, QD, sr, rp, hw, k⟩ => (pg_tup hc h hn hst).run pins s σ H v u Q I r (by
    cases d with
    | tup ds =>
      obtain ⟨hl, hb, hw⟩ := hw
      obtain ⟨a, vs', e1, e2, rs⟩ := rp
      exact ⟨a, vs', e1, e2, by rw [rs.len]; exact hl, S, τ, _, ds, QD, sr, RepsG.upl rs, hw, k⟩
    | _ => exact (show False from hw).elim)⟩
end
section
variable {X : Cx} {T : Tab}
/-- the turns of a comprehension -/
theorem lc_core' {K : PySem.W.Frag} {S : Sit} {J : It} {ds : List D} {g : Nat} {vs : List Nat} {tgd : DTG} {tt : DTT} {te : DTE} {τ : DSt} {σ : L2.St} {H1 : Hp} {QD : Sl → Prop} {Q : VK} {C : Hp → Prop} {L : Addr}
    (sr : SR K T S τ σ H1) (hL : H1 L = none) (hC : ∀ H', Kp (fun a => S.B = some a ∨ a = L) H1 H' → C H')
    (hgo : ∀ i H', i < ds.length → C H' → J.go i H') (hy : ∀ i H' x H'', C H' → J.yld i H' x H'' → H'' = H' ∧ ∀ d, ds[i]? = some d → Rep K T S.B (fun a => gset S g a ∨ a = L) H' d x) (hstop : ∀ H', C H' → J.stop ds.length H')
    (q : compRec g tgd tt te (wipeD τ vs) QD ds []) (k : ∀ H' v sl, Aft K T S H1 H' → RepSl K T S H1 H' sl v → QD sl → Q v H') :
    ∃ W : Nat → Nat → Hp → Prop, (∃ m, W 0 m (upd H1 L (.lst []))) ∧ ∀ i m H, W i m H →
      (J.stop i H ∧ Q (.ref L) H) ∨ (J.go i H ∧ ∃ Nx : Hp → Prop, (∀ H', Nx H' → ∃ m', m' < m ∧ W (i + 1) m' H') ∧ ∀ x H', J.yld i H x H' → UpGw K T vs tgd x (wipe σ vs) H' fun σ2 H2 => wipe σ2 vs = wipe σ vs ∧ UpT K T tt σ2 H2 fun b H3 =>
        if b = true then UpE K T te σ2 H3 fun y H4 => ∃ acc, H4 L = some (.lst acc) ∧ acc.length < sizeLine ∧ Nx (upd H4 L (.lst (acc ++ [y]))) else Nx H3) := by
  have nb : S.B ≠ some L := fun z => sr.newP (nl hL) (sr.bp L z)
  have nx : ¬ S.X L := fun z => sr.newP (nl hL) (sr.xp L z).1
  let S' : Sit := { S with P := fun a => S.P a ∨ a = L }
  let M' : Addr → Prop := fun a => gset S' 2 a
  have own0 : ∀ (j : Nat) (es : List D), (wipeD τ vs)[j]? = some (.own es) → (wipe σ vs)[j]? ≠ some (some (.ref L)) := fun j es e z => by
    obtain ⟨p, ws, e1, e2, _⟩ := (sr.wiped vs).own j es e
    rw [e1] at z
    have z := V.ref.inj (Option.some.inj (Option.some.inj z))
    rw [z, hL] at e2
    cases e2
  have sto0 : ∀ (i : Nat) (g : SO), (wipeD τ vs)[i]? = some (.sto g) → ∀ o, g.g L ≠ some o := fun i g e o m => (((sr.wiped vs).st i g e).rep L o m).2.2.lv hL
  refine ⟨fun i m H' => m = ds.length - i ∧ i ≤ ds.length ∧ ∃ (acc : List D) (ws : List V), H' L = some (.lst ws) ∧ Reps K T S.B M' H' acc ws ∧ SR K T S' (wipeD τ vs) (wipe σ vs) H' ∧ Kp (fun a => S.B = some a ∨ a = L) H1 H' ∧ compRec g tgd tt te (wipeD τ vs) QD (ds.drop i) acc,
    ⟨ds.length, rfl, Nat.zero_le _, [], [], upd_same, rfl, (sr.wiped vs).addP hL, Kp.laid hL, q⟩, ?_⟩
  rintro i m H' ⟨rfl, hi, acc, ws, e1, e2, e3, e4, q'⟩
  have c := hC H' e4
  by_cases hlt : i < ds.length
  · rw [List.drop_eq_getElem_cons hlt] at q'
    refine .inr ⟨hgo i H' hlt c, fun H2 => ∃ (acc : List D) (ws : List V), H2 L = some (.lst ws) ∧ Reps K T S.B M' H2 acc ws ∧ SR K T S' (wipeD τ vs) (wipe σ vs) H2 ∧ Kp (fun a => S.B = some a ∨ a = L) H1 H2 ∧ compRec g tgd tt te (wipeD τ vs) QD (ds.drop (i + 1)) acc,
      fun H2 z => ⟨ds.length - (i + 1), by omega, rfl, hlt, z⟩, fun x H2 y => ?_⟩
    obtain ⟨rfl, hr⟩ := hy i H' x H2 c y
    have hr := hr ds[i] (List.getElem?_eq_getElem hlt)
    have hr2 : RepG K T S' (up g ds[i]) H2 ds[i] x := by
      refine RepG.up (S := S') (Rep.anti (fun a z => ?_) _ _ hr)
      match g, z with
      | 0, z => exact .inl z
      | 1, z => exact z
      | _ + 2, z => exact Or.elim z (fun z => Or.elim z (fun z => .inl (.inl z)) .inr) fun z => .inl (.inr z)
    refine ⟨S', wipeD τ vs, _, ds[i], _, e3, hr2, q', fun τ3 σ3 s3 w3 q3 => ⟨w3.trans (wipe_wipe σ vs), S', τ3, _, s3, q3, fun H3 b a3 q4 => ?_⟩⟩
    have k3 : Kp (fun a => S.B = some a ∨ a = L) H1 H3 := e4.trans (a3.kp.mono fun _ z => .inl z)
    have e13 : H3 L = some (.lst ws) := a3.kp.k L _ e1 nb
    have e23 : Reps K T S.B M' H3 acc ws := Reps.kp a3.kp (fun c z => e3.gsub 2 c z) acc ws e2
    have s33 := e3.aft a3
    cases b with
    | false => exact ⟨acc, ws, e13, e23, s33, k3, q4⟩
    | true =>
      refine ⟨S', τ3, _, s3.aft a3, q4, fun H4 w sl a4 r4 ⟨q5, q6, q7⟩ => ?_⟩
      have k4 : Kp (fun a => S.B = some a ∨ a = L) H1 H4 := k3.trans (a4.kp.mono fun _ z => .inl z)
      have e14 : H4 L = some (.lst ws) := a4.kp.k L _ e13 nb
      have e24 : Reps K T S.B M' H4 acc ws := Reps.kp a4.kp (fun c z => e3.gsub 2 c z) acc ws e23
      have s34 := s33.aft a4
      have rd : RepG K T S' 2 H4 sl.d w := rd_of q5 (r4.g (s3.aft a3))
      obtain ⟨s35, k5⟩ := s34.wr (p := L) (vs := ws) (us := ws ++ [w]) (.inr rfl) nb nx e14 own0 sto0
      refine ⟨ws, e14, by rw [e24.len]; exact Nat.lt_of_lt_of_le q6 (lim_le' (Nat.le_refl _)), acc ++ [sl.d], ws ++ [w], upd_same, Reps.append ?_ (Reps.one ?_), s35, k4.trans (Kp.write (.inr rfl) e14), q7⟩
      · exact Reps.kp k5 (fun c z => .inl z) acc ws e24
      · exact Rep.kp k5 (fun c z => .inl z) _ _ rd
  · have e : i = ds.length := by omega
    subst e
    rw [List.drop_length] at q'
    have kk : Kp S.N H1 H' := ⟨fun a o h n => e4.k0 a o h (fun z => Or.elim z n (ne_of_none h hL)), e4.t, e4.z, e4.s⟩
    refine .inl ⟨hstop H' c, k H' (.ref L) (.own acc) ⟨kk, e3.bag⟩ ⟨L, ws, rfl, nl hL, e1, Reps.anti (fun a z => ?_) acc ws e2⟩ q'⟩
    have z : (S.P a ∨ S.M a) ∨ a = L := z
    show (S.P a ∨ a = L) ∨ S.M a
    exact Or.elim z (fun z => Or.elim z (fun z => .inl (.inl z)) .inr) fun z => .inl (.inr z)
theorem lc_up {tl : DTE} {tgd : DTG} {tt : DTT} {te : DTE} {vs : List Nat} {σ : L2.St} {H : Hp} {Q : VK} {K : PySem.W.Frag} (h : UpE K T (dLc tl tgd tt te vs) σ H Q) : tLc (iSeq K (UpE K T tl)) (UpGw K T vs tgd) (UpT K T tt) (UpE K T te) vs σ H Q := by
  obtain ⟨S, τ, QD, sr, h, k⟩ := h
  refine ⟨S, τ, _, sr, h, fun H1 v sl a r q => ?_⟩
  have s1 := sr.aft a
  have rg := r.g sr
  have k1 : ∀ H' v sl, Aft K T S H1 H' → RepSl K T S H1 H' sl v → QD sl → Q v H' := fun H' v sl a' r' q' => k H' v sl (a.trans a') (r'.back a) q'
  cases sd : sl.d with
  | lst es =>
    rw [sd] at q rg
    obtain ⟨p, ws, rfl, e1, e2, rs⟩ := rg
    refine ⟨p, rfl, .inl ⟨⟨ws, SqL.of e1⟩, fun L hL => ?_⟩⟩
    have npL : p ≠ L := ne_of_none e1 hL
    have nB : S.B ≠ some p := fun z => e2 (s1.gsub _ p z)
    refine lc_core' (C := fun H' => H' p = some (.lst ws) ∧ Reps K T S.B (fun a => gset S sl.g a ∨ a = L) H' es ws) s1 hL (fun H' kk => ⟨kk.k p _ e1 fun z => Or.elim z nB npL, Reps.kp kk (fun c z => Or.elim z (fun z => .inl (s1.gsub _ c z)) .inr) es ws (Reps.new (nl hL) es ws rs)⟩)
      (fun i H' hi c => ?_) (fun i H' x H'' c y => ⟨y.1, fun d hd => ?_⟩) (fun H' c => ⟨ws, SqL.of c.1, by rw [rs.len]; exact Nat.le_refl _⟩) q k1
    · obtain ⟨w, ew, _⟩ := c.2.get (List.getElem?_eq_getElem hi)
      exact ⟨ws, w, SqL.of c.1, ew⟩
    · obtain ⟨w, ew, rw'⟩ := c.2.get hd
      have := y.2 ws (SqL.of c.1)
      rw [ew] at this
      cases this
      exact rw'
  | tup es =>
    rw [sd] at q rg
    obtain ⟨p, ws, rfl, e1, rs⟩ := rg
    refine ⟨p, rfl, .inr ⟨⟨ws, e1⟩, fun L hL => ?_⟩⟩
    refine lc_core' (C := fun H' => SqT K H' p ws ∧ Reps K T S.B (fun a => gset S sl.g a ∨ a = L) H' es ws) s1 hL (fun H' kk => ⟨sqT_kp kk e1, Reps.kp kk (fun c z => Or.elim z (fun z => .inl (s1.gsub _ c z)) .inr) es ws (Reps.new (nl hL) es ws rs)⟩)
      (fun i H' hi c => ?_) (fun i H' x H'' c y => ⟨y.1, fun d hd => ?_⟩) (fun H' c => ⟨ws, c.1, by rw [rs.len]; exact Nat.le_refl _⟩) q k1
    · obtain ⟨w, ew, _⟩ := c.2.get (List.getElem?_eq_getElem hi)
      exact ⟨ws, w, c.1, ew⟩
    · obtain ⟨w, ew, rw'⟩ := c.2.get hd
      have := y.2 ws c.1
      rw [ew] at this
      cases this
      exact rw'
  | _ => rw [sd] at q; exact (show False from q).elim
variable {elt tg iter : Expr} {ifs : List Expr} {scope : Scope} {own : List (Str × Nat)} {pos : Pos} {tl : DTE} {tgd : DTG} {tt : DTT} {te : DTE}
theorem dts_nil : PTs X [] (UpT X.K T tYesD) := ⟨fun pins s σ H Q I ⟨S, τ, QD, sr, h, k⟩ => pts_nil.run pins s σ H Q I (k H true sr.same h)⟩
end
end DL
/-! DL8: contracts: calls, bodies, methods, fields, instances made. -/
namespace DL
open PySem PySem.Spec PyProof.Rows L2
abbrev Ctr := List D → (Sl → Prop) → Prop
def spC (K : PySem.W.Frag) (T : Tab) (C : Ctr) : Sp := fun vs H Q _ => ∃ (B : Option Addr) (L : LX) (M : Addr → Prop) (ds : List D) (QD : Sl → Prop), BagOk T B L H ∧ (∀ a, M a → Lv H a) ∧ Reps K T B (fun a => B = some a) H ds vs ∧ C ds QD ∧
  ∀ H' v sl, Kp (fun a => B = some a) H H' → BagOk T B L H' → RepR K T B M H H' sl v → QD sl → Q v H'
def isScs : List D → List V → Prop
  | [], vs => vs = []
  | d :: ds, vs => ∃ v r, vs = v :: r ∧ isSc d v ∧ isScs ds r
theorem isScs.rep {K : PySem.W.Frag} {T : Tab} {B : Option Addr} {M : Addr → Prop} {H : Hp} : ∀ {ds : List D} {vs : List V}, isScs ds vs → Reps K T B M H ds vs
  | [], _, h => h
  | d :: ds, _, ⟨v, r, e, h1, h2⟩ => ⟨v, r, e, isSc.rep h1, isScs.rep h2⟩
@[simp] def dCall (C : Ctr) (dd : List D) (ta : DTA) : DTE := fun τ Q => ta τ fun _ ds => C (ds ++ dd) Q
section
variable {K : PySem.W.Frag} {T : Tab} {S : Sit} {τ : DSt} {σ : L2.St} {H H1 : Hp}
theorem SR.mal (sr : SR K T S τ σ H) : ∀ a, gset S 2 a → Lv H a := fun a z => Or.elim z (sr.al a) fun z => sr.kp.s a (sr.ml a z)
theorem RepR.sl (sr : SR K T S τ σ H) {sl : Sl} {v : V} (r : RepR K T S.B (gset S 2) H H1 sl v) : RepSl K T S H H1 sl v := by
  have sub : ∀ g a, gset S g a → (gset S 2 a ∨ S.B = some a) := fun g a z => match g, z with
    | 0, z => .inr z
    | 1, z => .inl (.inl z)
    | _ + 2, z => .inl z
  cases sl with
  | v g d => exact Rep.anti (sub g) d v r
  | own ds =>
    obtain ⟨p, vs, e, h1, h2, h3⟩ := r
    exact ⟨p, vs, e, h1, h2, Reps.anti (fun a z => Or.elim z (fun z => .inl (.inl z)) .inr) ds vs h3⟩
  | un => exact r
  | ins c ds => exact r
  | sto g => exact r
theorem spC_of {C : Ctr} {ds : List D} {vs : List V} {QD : Sl → Prop} {Q : VK} {E : XK} {g : Nat} (sr : SR K T S τ σ H) (r : RepsG K T S g H ds vs) (q : C ds QD) (k : ∀ H' v sl, Aft K T S H H' → RepSl K T S H H' sl v → QD sl → Q v H') : spC K T C vs H Q E :=
  ⟨S.B, S.L, gset S 2, ds, QD, sr.bag, sr.mal, Reps.anti (sr.gsub g) ds vs r, q, fun H' v sl kp bag rr q' => k H' v sl ⟨kp, bag⟩ (RepR.sl sr rr) q'⟩
end
/-- the slots at a def's entry -/
@[simp] def startD (N : List Str) (ds : List D) : DSt := ds.map (fun d => Sl.v (up 1 d) d) ++ List.replicate (N.length - ds.length) .un
theorem sr_start {K : PySem.W.Frag} {T : Tab} {B : Option Addr} {L : LX} {M : Addr → Prop} {H : Hp} {N : List Str} {ds : List D} {vs : List V} (bag : BagOk T B L H) (hm : ∀ a, M a → Lv H a) (r : Reps K T B (fun a => B = some a) H ds vs) :
    SR K T ⟨B, L, fun _ => False, H, M, fun a => B = some a, []⟩ (startD N ds) (start N vs) H := by
  have hb : ∀ a, B = some a → Lv H a := fun a e => by
    obtain ⟨_, ns, _, _, _, _, h1, _⟩ := bag.bg a e
    exact Lv.of h1
  have at_ : ∀ {i : Nat} {s : Sl}, (startD N ds)[i]? = some s → (∃ d, ds[i]? = some d ∧ s = .v (up 1 d) d) ∨ s = .un := fun {i s} e => by
    unfold startD at e
    rcases Nat.lt_or_ge i ds.length with h | h
    · rw [List.getElem?_append_left (by rw [List.length_map]; exact h), List.getElem?_map, List.getElem?_eq_getElem h] at e
      cases e
      exact .inl ⟨_, List.getElem?_eq_getElem h, rfl⟩
    · rw [List.getElem?_append_right (by rw [List.length_map]; exact h)] at e
      obtain ⟨_, e⟩ := List.getElem?_eq_some_iff.mp e
      rw [List.getElem_replicate] at e
      exact .inr e.symm
  refine ⟨?_, fun a z => z, hb, hm, Kp.refl, fun a z => (by cases z), fun a z q => absurd z q, hb, bag, fun b e z => ?_, fun i g d e => ?_, fun i es e => ?_, fun i c es e => ?_, fun x hx => (by cases hx), fun i j es fs p e => ?_, fun i x e => ?_, fun i j x y e => ?_⟩
  · unfold startD L2.start
    rw [List.length_append, List.length_append, List.length_map, List.length_map, List.length_replicate, List.length_replicate, r.len]
  · obtain ⟨h1, _⟩ := bag.bg b e
    have z : B = some L.a := z
    have e : B = some b := e
    rw [e] at z
    exact h1 (Option.some.inj z)
  · rcases at_ e with ⟨d', e1, e2⟩ | e2
    · cases e2
      obtain ⟨v, h1, h2⟩ := r.get e1
      refine ⟨?_, v, ?_, RepG.up (S := ⟨B, L, fun _ => False, H, M, fun a => B = some a, []⟩) (g := 1) h2⟩
      · unfold up
        cases d.imm <;> decide
      · unfold L2.start
        rw [List.getElem?_append_left (by rw [List.length_map]; exact (List.getElem?_eq_some_iff.mp h1).1), List.getElem?_map, h1] <;> rfl
    · cases e2
  · rcases at_ e with ⟨d', e1, e2⟩ | e2 <;> cases e2
  · rcases at_ e with ⟨d', e1, e2⟩ | e2 <;> cases e2
  · rcases at_ e with ⟨d', e1, e2⟩ | e2 <;> cases e2
  · rcases at_ e with ⟨d', e1, e2⟩ | e2 <;> cases e2
  · rcases at_ e with ⟨d', e1, e2⟩ | e2 <;> cases e2
section
variable {P : Program} {w : World} {K : PySem.W.Frag} {T : Tab} {mg : Str → Option Value} {base : Heap} {x qual : Str} {params : Arguments} {body : List Stmt} {scope : Scope} {dvs : List V} {kws : List (Str × V)} {f : Addr} {fd : FuncData} {N ps : List Str} {k : Nat}
/-- a def that keeps its contract and raises nothing -/
theorem fn_ok (F : FunD K x qual params body scope dvs kws f fd) (S : FnScope N ps scope) (C : Ctr) (t : DTS) (hl : ∀ ds QD, C ds QD → ds.length = ps.length)
    (hb : ∀ (cdv : Value) (A : Around) (outer : List Env) (s : Shared) (H : Hp) (E : XK), Room k (A.deeper (envOfC qual scope s.heap.objs.size f cdv)) → PSs (cxOf CX0 P w K mg base N qual scope f cdv A outer s H E).nox body (UpS K T ⟨mg, E⟩ t))
    (hp : ∀ ds QD, C ds QD → t { nx := fun _ => QD (.v 2 .non), rt := QD } (startD N ds)) : FnOk P w K mg base CX0 (k + 1) f fd ps (spC K T C) := by
  refine F.ok S (fun vs H Q E h => ?_) (fun cdv A outer s H vs Q E hr h => ⟨UpS K T ⟨mg, E⟩ t, (hb cdv A outer s H E hr).nox, ?_⟩)
  · obtain ⟨B, L, M, ds, QD, _, _, r, q, _⟩ := h
    rw [r.len]; exact hl ds QD q
  · obtain ⟨B, L, M, ds, QD, bag, hm, r, q, kk⟩ := h
    have kb : ∀ {H' : Hp}, Kp (fun a => B = some a ∨ False) H H' → Kp (fun a => B = some a) H H' := fun z => z.mono fun _ z => Or.elim z (fun z => z) (fun z => by cases z)
    refine ⟨⟨B, L, fun _ => False, H, M, fun a => B = some a, []⟩, startD N ds, _, sr_start bag hm r, hp ds QD q, ⟨fun P' τ' σ' H' sr q' => kk H' .non (.v 2 .non) (kb sr.kp) sr.bag rfl q', fun _ _ _ _ _ z => z.elim, fun _ _ _ _ _ z => z.elim, fun H' v sl kp bag' rr q' => kk H' v sl (kb kp) bag' rr q', fun _ _ _ _ _ _ _ _ z => z.elim, fun _ _ _ _ _ _ _ z => z.elim, fun _ _ _ _ _ _ _ _ z => z.elim, fun _ _ _ _ _ _ _ _ _ z => z.elim⟩⟩
end
section
variable {X : Cx} {T : Tab} {CX : CXT} {k : Nat} {f Ca : Addr} {fd : FuncData} {ps : List Str} {C : Ctr} {dd : List D} {dvs : List V} {ds : List Value} {E : XK} {x m : Str} {p pos apos : Pos} {e o : Expr} {es : List Expr} {to : DTE} {t : DTA}
theorem de_call (F : FnOk X.prog X.w X.K X.mg X.base CX k f fd ps (spC X.K T C)) (hr : Room k X.A) (hg : Gl X x) (hm : X.mg x = some (.ref f)) (hk : PySem.W.keepIn X.K (.ref f) = true) (hb : Binds X.K fd ps ds) (hd : Vals dvs ds) (hx : Passes CX X E) (hdd : isScs dd dvs)
    (ha : PA X (e :: es) (UpA X.K T t)) (hdb : (x == ("__debug__" : Str)) = false := by decide) (he : starEach (e :: es) X.env = (false, eval e X.env) :: starEach es X.env := by rfl) (hpl : (backTo pos (starEach es X.env)).any (·.1) = false := by rfl) :
    PE X (.Call (.Name x p) (e :: es) [] pos) (UpE X.K T (dCall C dd t)) :=
  (pe_call F hr hg hm hk hb hd hx ha hdb he hpl).of fun σ H Q ⟨S, τ, QD, sr, h, k⟩ => ⟨S, τ, _, sr, h, fun H1 vs g ds a r q =>
    spC_of (E := E) (sr.aft a) (r.append hdd.rep) q fun H' v sl a2 r2 q2 => k H' v sl (a.trans a2) (r2.back a) q2⟩
/-- o.m(..), o an instance that is data -/
@[simp] def dMeth (c : Nat) (C : Ctr) (dd : List D) (to : DTE) (ta : DTA) : DTE := fun τ Q => to τ fun o => match o.d with
  | .obj c' fs => c' = c ∧ ta τ fun _ ds => C (.obj c fs :: (ds ++ dd)) Q
  | _ => False
/-- o.f -/
@[simp] def dFld (c j : Nat) (to : DTE) : DTE := fun τ Q => to τ fun o => match o.d with
  | .obj c' fs => c' = c ∧ match fs[j]? with
    | some d => Q (.v (up o.g d) d)
    | none => False
  | _ => False
/-! ### instances made -/
abbrev CtrI := List D → (List D → Prop) → Prop
def spI (K : PySem.W.Frag) (T : Tab) (c : Nat) (C : CtrI) : Sp := fun vs H Q _ => ∃ (B : Option Addr) (L : LX) (M : Addr → Prop) (ds : List D) (QD : List D → Prop) (x dx : Addr) (us : List V), vs = .ref x :: us ∧ H x = some (.ins (T c).1 dx []) ∧ B ≠ some x ∧ L.a ≠ x ∧ ¬ M x ∧
  BagOk T B L H ∧ (∀ a, M a → Lv H a) ∧ Reps K T B (fun a => B = some a ∨ a = x) H ds us ∧ C ds QD ∧
  ∀ H' fs ws dx', Kp (fun a => B = some a ∨ a = x) H H' → BagOk T B L H' → H' x = some (.ins (T c).1 dx' ((T c).2.zip ws)) → Reps K T B (fun a => (M a ∨ B = some a) ∨ a = x) H' fs ws → QD fs → Q .non H'
@[simp] def dMake (c : Nat) (C : CtrI) (dd : List D) (ta : DTA) : DTE := fun τ Q => ta τ fun _ ds => C (ds ++ dd) fun fs => Q (.v 2 (.obj c fs))
end
end DL
/-! DL9: match. -/
namespace DL
open PySem PySem.Spec PyProof.Rows L2
inductive DP where
  | val (x : Str) | non | cap (n : Option Str) | seq (ps : List DP) | as (p : DP) (n : Str) | or (ps : List DP)
abbrev Caps := List (Str × D)
mutual
@[simp] def patD : DP → D → Option Caps
  | .val x, d => bif eqB d (.str x) then some [] else none
  | .non, d => bif isNon d then some [] else none
  | .cap none, _ => some []
  | .cap (some n), d => some [(n, d)]
  | .seq ps, .tup ds => patDs ps ds
  | .seq ps, .lst ds => patDs ps ds
  | .seq _, _ => none
  | .as p n, d => match patD p d with
    | some cs => some (cs ++ [(n, d)])
    | none => none
  | .or ps, d => patOr ps d
@[simp] def patDs : List DP → List D → Option Caps
  | [], [] => some []
  | p :: ps, d :: ds => match patD p d with
    | none => none
    | some cs => match patDs ps ds with
      | none => none
      | some cs' => some (cs ++ cs')
  | [], _ :: _ => none
  | _ :: _, [] => none
@[simp] def patOr : List DP → D → Option Caps
  | [], _ => none
  | p :: ps, d => match patD p d with
    | some cs => some cs
    | none => patOr ps d
end
mutual
@[simp] def okP : DP → D → Bool
  | .val x, d => shp d && shp (.str x)
  | .non, _ => true
  | .cap _, _ => true
  | .seq ps, .tup ds => okPs ps ds
  | .seq ps, .lst ds => okPs ps ds
  | .seq _, _ => false
  | .as p _, d => okP p d
  | .or ps, d => okOr ps d
@[simp] def okPs : List DP → List D → Bool
  | p :: ps, d :: ds => okP p d && okPs ps ds
  | _, _ => true
@[simp] def okOr : List DP → D → Bool
  | [], _ => true
  | p :: ps, d => okP p d && okOr ps d
end
def CapR (K : PySem.W.Frag) (T : Tab) (B : Option Addr) (M : Addr → Prop) (H : Hp) : Caps → List (Str × Value) → Prop := Paired fun c b => c.1 = b.1 ∧ ∃ v, Rep K T B M H c.2 v ∧ RelV v b.2
def CapQ (K : PySem.W.Frag) (T : Tab) (B : Option Addr) (M : Addr → Prop) (H : Hp) (Q : Option (List (Str × Value)) → Shared → Prop) (s' : Shared) : Option Caps → Prop
  | none => Q none s'
  | some cs => ∀ bs, CapR K T B M H cs bs → Q (some bs) s'
structure PPat (X : Cx) (T : Tab) (p : Pattern) (dp : DP) : Prop where
  run : ∀ (pins : List (Addr × Obj)) (s : Shared) (σ : L2.St) (H : Hp) (B : Option Addr) (M : Addr → Prop) (d : D) (v : V) (u : Value) (Q : Option (List (Str × Value)) → Shared → Prop), Inv X pins σ H s → Rep X.K T B M H d v → RelV v u → okP dp d = true →
    (∀ s', Inv X pins σ H s' → CapQ X.K T B M H Q s' (patD dp d)) → wpAny (model X.prog X.w) X.A (matchPattern p X.env u) Q X.xe s
structure PPats (X : Cx) (T : Tab) (ps : List Pattern) (dps : List DP) : Prop where
  run : ∀ (pins : List (Addr × Obj)) (s : Shared) (σ : L2.St) (H : Hp) (B : Option Addr) (M : Addr → Prop) (ds : List D) (vs : List V) (us : List Value) (Q : Option (List (Str × Value)) → Shared → Prop), ds.length = dps.length → Inv X pins σ H s → Reps X.K T B M H ds vs → Vals vs us → okPs dps ds = true →
    (∀ s', Inv X pins σ H s' → CapQ X.K T B M H Q s' (patDs dps ds)) → wpAny (model X.prog X.w) X.A (matchEach ps X.env us) Q X.xe s
structure PPor (X : Cx) (T : Tab) (ps : List Pattern) (dps : List DP) : Prop where
  run : ∀ (pins : List (Addr × Obj)) (s : Shared) (σ : L2.St) (H : Hp) (B : Option Addr) (M : Addr → Prop) (d : D) (v : V) (u : Value) (Q : Option (List (Str × Value)) → Shared → Prop), Inv X pins σ H s → Rep X.K T B M H d v → RelV v u → okOr dps d = true →
    (∀ s', Inv X pins σ H s' → CapQ X.K T B M H Q s' (patOr dps d)) → wpAny (model X.prog X.w) X.A (matchFirst ps X.env u) Q X.xe s
theorem patDs_len : ∀ {ps : List DP} {ds : List D}, ds.length ≠ ps.length → patDs ps ds = none
  | [], [], h => absurd rfl h
  | [], _ :: _, _ => rfl
  | _ :: _, [], _ => rfl
  | p :: ps, d :: ds, h => by
    have e : patDs ps ds = none := patDs_len fun z => h (by rw [List.length_cons, List.length_cons, z])
    unfold patDs
    rw [e]
    cases patD p d <;> rfl
theorem CapR.app {K : PySem.W.Frag} {T : Tab} {B : Option Addr} {M : Addr → Prop} {H : Hp} : ∀ {cs cs' : Caps} {bs bs' : List (Str × Value)}, CapR K T B M H cs bs → CapR K T B M H cs' bs' → CapR K T B M H (cs ++ cs') (bs ++ bs')
  | [], _, _, _, .nil, h => h
  | _ :: _, _, _, _, .cons a b, h => .cons a (CapR.app b h)
section
variable {X : Cx} {T : Tab} {pos p2 : Pos} {k : Nat}
theorem pp_val {x : Str} (hu : X.A.units + 64 < cLine) : PPat X T (.MatchValue (.Constant (.str x) k p2) pos) (.val x) := ⟨fun pins s σ H B M d v u Q I r rv ok h => by
  obtain ⟨h1, h2⟩ := Bool.and_eq_true_iff.mp (show (shp d && shp (.str x)) = true from ok)
  refine wpAny_matchPattern_Value (thn (pe_str.run pins s σ H (fun w H' => w = .str x ∧ H' = H) I ⟨rfl, rfl⟩) fun w s1 ⟨w', H1, I1, r1, e1, e2⟩ => ?_)
  subst e1 e2
  obtain ⟨p1, s1'⟩ := shp_dp h1 r
  obtain ⟨p2, s2'⟩ := shp_dp (K := X.K) (T := T) (B := B) (M := M) (H := H1) (v := .str x) h2 rfl
  refine thn (op_eqD hu pins s1 σ H1 v (.str x) u w (fun z H' => z = .bl (eqB d (.str x)) ∧ H' = H1) I1 rv r1 ⟨_, _, p1, p2, s1', s2', rfl, rfl⟩) fun c s2 ⟨z, H2, I2, r2, e3, e4⟩ => ?_
  subst e3 e4
  have r2 : c = Value.bool (eqB d (.str x)) := r2
  subst r2
  refine wpAny_truthy_bool ?_
  have q := h s2 I2
  unfold patD at q
  cases eb : eqB d (.str x) with
  | true =>
    rw [eb] at q
    exact q [] .nil
  | false =>
    rw [eb] at q
    exact q⟩
theorem pp_cap {n : Option Str} : PPat X T (.MatchAs none n pos) (.cap n) := ⟨fun pins s σ H B M d v u Q I r rv ok h => by
  refine wpAny_matchPattern_Capture ?_
  have q := h s I
  cases n with
  | none => exact q [] .nil
  | some n => exact q [(n, u)] (.cons ⟨rfl, v, r, rv⟩ .nil)⟩
theorem pps_nil : PPats X T [] [] := ⟨fun pins s σ H B M ds vs us Q hl I r rv ok h => by
  have e : ds = [] := List.eq_nil_of_length_eq_zero hl
  subst e
  have e2 : vs = [] := r
  subst e2
  cases rv
  exact wpAny_matchEach_nil (h s I [] .nil)⟩
theorem pps_cons {p : Pattern} {ps : List Pattern} {dp : DP} {dps : List DP} (hp : PPat X T p dp) (hps : PPats X T ps dps) (hst : p.isStar = false := by rfl) : PPats X T (p :: ps) (dp :: dps) := ⟨fun pins s σ H B M ds vs us Q hl I r rv ok h => by
  cases ds with
  | nil => cases hl
  | cons d ds =>
    obtain ⟨v, vr, e, r1, r2⟩ := r
    subst e
    cases rv with
    | cons rv1 rv2 =>
      obtain ⟨h1, h2⟩ := Bool.and_eq_true_iff.mp (show (okP dp d && okPs dps ds) = true from ok)
      refine wpAny_matchEach_cons (hp.run pins s σ H B M d v _ _ I r1 rv1 h1 fun s' I' => ?_) hst
      cases e : patD dp d with
      | none =>
        have q := h s' I'
        unfold patDs at q
        rw [e] at q
        exact q
      | some cs =>
        intro bs hb
        refine hps.run pins s' σ H B M ds vr _ _ (Nat.succ.inj hl) I' r2 rv2 h2 fun s2 I2 => ?_
        have q := h s2 I2
        unfold patDs at q
        rw [e] at q
        cases e2 : patDs dps ds with
        | none => rw [e2] at q; exact q
        | some cs' =>
          rw [e2] at q
          intro bs' hb'
          exact q _ (hb.app hb')⟩
theorem pp_seq {ps : List Pattern} {dps : List DP} (hc : X.calm = true) (hps : PPats X T ps dps) (hl : ps.length = dps.length) (hstar : ps.findIdx? (·.isStar) = none := by rfl)
    (hwild : (ps.all fun p => p.isWildcard || (p.isStar && p.names.isEmpty)) = false := by rfl) : PPat X T (.MatchSequence ps pos) (.seq dps) := ⟨fun pins s σ H B M d v u Q I r rv ok h => by
  cases d with
  | tup ds =>
    obtain ⟨a, vs, rfl, e1, rs⟩ := r
    cases rv
    obtain ⟨its, r, ht, hz⟩ := I.tuple e1
    have hlen : its.toArray.size = ds.length := by rw [List.size_toArray, ← r.length, rs.len]
    have hfit : (its.toArray.size : Int) < 2 ^ 63 := by
      have := line63
      rw [hlen, ← rs.len]
      have h3 : (vs.length : Int) ≤ ((sizeLine : Nat) : Int) := Int.ofNat_le.mpr hz
      have h4 : ((sizeLine : Nat) : Int) < 2 ^ 63 := by
        rw [sizeLine_eq]; decide
      omega
    by_cases hn : ds.length = dps.length
    · refine matchSeq_tuple_hit ht hfit (by rw [hlen, hn, hl]) ?_ hstar hwild
      have I1 : Inv X pins σ H { s with toks := s.toks + 1 + 1 } := I.tok _
      rw [hl, ← hn, ← hlen]
      refine unpackItems_tuple (I.ok.hd hc) ht fun h' hx => ?_
      have I2 := I1.kept (h' := h') (t' := s.toks + 1 + 1) fun b o e => hx b o (Nat.ne_of_lt (Heap.lt_size e)) e
      exact hps.run pins _ σ H B M ds vs _ Q hn I2 rs (by simpa using r) ok h
    · refine matchSeq_tuple_miss ht hfit (by rw [hlen, hl]; exact hn) ?_ hstar hwild
      have q := h { s with toks := s.toks + 1 + 1 } (I.tok _)
      unfold patD at q
      rw [patDs_len hn] at q
      exact q
  | lst ds =>
    obtain ⟨a, vs, rfl, e1, _, rs⟩ := r
    cases rv
    obtain ⟨its, r, ht, hz⟩ := I.list (SqL.of e1)
    have ht := ht.isList
    have hlen : its.toArray.size = ds.length := by rw [List.size_toArray, ← r.length, rs.len]
    have hfit : (its.toArray.size : Int) < 2 ^ 63 := by
      have := line63
      rw [hlen, ← rs.len]
      have h3 : (vs.length : Int) ≤ ((sizeLine : Nat) : Int) := Int.ofNat_le.mpr hz
      have h4 : ((sizeLine : Nat) : Int) < 2 ^ 63 := by
        rw [sizeLine_eq]; decide
      omega
    by_cases hn : ds.length = dps.length
    · refine matchSeq_list_hit ht hfit (by rw [hlen, hn, hl]) ?_ hstar hwild
      have I1 : Inv X pins σ H { s with toks := s.toks + 1 + 1 } := I.tok _
      rw [hl, ← hn, ← hlen]
      refine PySem.W.kun_itemsOf (I.ok.hd hc) ht fun h' hx => ?_
      have I2 := I1.kept (h' := h') (t' := s.toks + 1 + 1) fun b o e => hx b o (Nat.ne_of_lt (Heap.lt_size e)) e
      exact hps.run pins _ σ H B M ds vs _ Q hn I2 rs (by simpa using r) ok h
    · refine matchSeq_list_miss ht hfit (by rw [hlen, hl]; exact hn) ?_ hstar hwild
      have q := h { s with toks := s.toks + 1 + 1 } (I.tok _)
      unfold patD at q
      rw [patDs_len hn] at q
      exact q
  | _ => cases ok⟩
end

/-! ### the statement -/
structure DCase where
  pat : DP
  ix : List Nat
  body : DTS
@[simp] def setAll (g : Nat) : List Nat → Caps → DSt → (DSt → Prop) → Prop
  | [], [], τ, Q => Q τ
  | i :: is, (_, d) :: cs, τ, Q => Nat.ble 1 (up g d) = true ∧ setAll g is cs (τ.set i (.v (up g d) d)) Q
  | _, _, _, _ => False
@[simp] def caseRec (g : Nat) (d : D) (E : DEnds) : List DCase → DSt → Prop
  | [], τ => E.nx τ
  | c :: cs, τ => okP c.pat d = true ∧ match patD c.pat d with
    | some caps => setAll g c.ix caps τ fun τ' => c.body E τ'
    | none => caseRec g d E cs τ
@[simp] def dMatch (te : DTE) (cs : List DCase) : DTS := fun E τ => te τ fun sl => caseRec sl.g sl.d E cs τ
structure PCs (X : Cx) (T : Tab) (ek : EK) (cases : List MatchCase) (cs : List DCase) : Prop where
  run : ∀ (pins : List (Addr × Obj)) (s : Shared) (σ : L2.St) (H : Hp) (S : Sit) (τ : DSt) (g : Nat) (d : D) (v : V) (u : Value) (fi : Bool) (DD : DEnds) (E : Ends), Inv X pins σ H s → SR X.K T S τ σ H → RepG X.K T S g H d v → RelV v u → caseRec g d DD cs τ → Out X.K T ek S DD E →
    wpAny (model X.prog X.w) X.A (matchCases cases X.env u fi) (SP X pins E) X.xe s
section
variable {X : Cx} {T : Tab}
theorem pcs_nil : PCs X T ek [] [] := ⟨fun pins s σ H S τ g d v u fi DD E I sr r rv q o => wpAny_matchCases_nil ⟨σ, H, I, o.nx S.P τ σ H sr q⟩⟩
/-- the names that a pattern binds, by slots -/
inductive NamesAt (X : Cx) : List Str → List Nat → Prop
  | nil : NamesAt X [] []
  | cons {n : Str} {ns : List Str} {i : Nat} {is : List Nat} (hi : X.N[i]? = some n) (hx : Loc X.env.scope n) (hf : X.fn n = true ∨ X.env.scope.names.lookup n = some .local) (t : NamesAt X ns is) : NamesAt X (n :: ns) (i :: is)
theorem bind_all (hN : X.N.Nodup) {pins : List (Addr × Obj)} {H : Hp} {S : Sit} {g : Nat} {E : Value → Shared → Prop} : ∀ {ns : List Str} {is : List Nat} {caps : Caps} {bs : List (Str × Value)} {τ : DSt} {σ : L2.St} {s : Shared} {R : DSt → Prop} {Q : Unit → Shared → Prop}, NamesAt X ns is → caps.map (·.1) = ns →
    CapR X.K T S.B (gset S g) H caps bs → Inv X pins σ H s → SR X.K T S τ σ H → setAll g is caps τ R → (∀ s' τ' σ', Inv X pins σ' H s' → SR X.K T S τ' σ' H → R τ' → Q () s') →
    wpAny (model X.prog X.w) X.A (assignInOrder (bs.map fun (n, _) => bindName X.env n) (bs.map (·.2))) Q E s := by
  intro ns is caps
  induction caps generalizing ns is with
  | nil =>
    intro bs τ σ s R Q hn e cr I sr q k
    cases cr
    cases hn with
    | nil => exact wpAny_assignInOrder_none (k s τ σ I sr q)
    | cons hi hx hf t => cases e
  | cons c caps ih =>
    intro bs τ σ s R Q hn e cr I sr q k
    cases cr with
    | cons c1 c2 =>
      cases hn with
      | nil => cases e
      | cons hi hx hf t =>
        obtain ⟨e1, v, rp, rv⟩ := c1
        obtain ⟨q1, q2⟩ := q
        have en : _ = _ := (List.cons.inj e).1
        refine wpAny_assignInOrder_more ?_
        rename_i b bs' n ns' i is'
        obtain ⟨bn, bv⟩ := b
        have e1 : c.1 = bn := e1
        subst e1
        subst en
        refine wpAny_bindName (store_ok I hN hi hx rv (fun s2 I2 => ?_) hf)
        exact ih t (List.cons.inj e).2 c2 I2 (sr.setV (Nat.le_of_ble_eq_true q1) (RepG.up rp)) q2 k
theorem pcs_cons {p : Pattern} {body : List Stmt} {rest : List MatchCase} {dp : DP} {ix : List Nat} {ns : List Str} {tb : DTS} {cs : List DCase} (hN : X.N.Nodup) (hp : PPat X T p dp) (hn : NamesAt X ns ix) (hd : ∀ d caps, patD dp d = some caps → caps.map (·.1) = ns) (hb : PSs X body (UpS X.K T ek tb)) (hr : PCs X T ek rest cs) :
    PCs X T ek (⟨p, none, body⟩ :: rest) (⟨dp, ix, tb⟩ :: cs) := ⟨fun pins s σ H S τ g d v u fi DD E I sr r rv q o => by
  obtain ⟨q1, q2⟩ := q
  refine wpAny_matchCases_cons (hp.run pins s σ H S.B (gset S g) d v u _ I r rv q1 fun s' I' => ?_)
  have q2 : (match patD dp d with | some caps => setAll g ix caps τ (fun τ' => tb DD τ') | none => caseRec g d DD cs τ) := q2
  cases e : patD dp d with
  | none =>
    rw [e] at q2
    exact hr.run pins s' σ H S τ g d v u false DD E I' sr r rv q2 o
  | some caps =>
    rw [e] at q2
    intro bs hb'
    exact bind_all hN hn (hd d caps e) hb' I' sr q2 fun s2 τ2 σ2 I2 s2' q3 => hb.run pins s2 σ2 H E I2 ⟨S, τ2, DD, s2', q3, o⟩⟩
theorem ds_match {e : Expr} {cases : List MatchCase} {te : DTE} {cs : List DCase} {pos : Pos} (he : PE X e (UpE X.K T te)) (hc : PCs X T ek cases cs) : PS X (.Match e cases pos) (UpS X.K T ek (dMatch te cs)) :=
  ⟨fun pins s σ H E I ⟨S, τ, DD, sr, h, o⟩ => wpAny_Match (thn (he.run pins s σ H (fun v H' => ∃ g d, Aft X.K T S H H' ∧ RepG X.K T S g H' d v ∧ caseRec g d DD cs τ) I ⟨S, τ, _, sr, h, fun H' v sl a r q => ⟨sl.g, sl.d, a, r.g sr, q⟩⟩) fun u s1 ⟨v, H1, I1, rv, g, d, a, r, q⟩ => hc.run pins s1 σ H1 S τ g d v u true DD E I1 (sr.aft a) r rv q o)⟩
end
end DL
/-! DL10: defs by their names: what a caller needs of each. -/
namespace DL
open PySem PySem.Spec PyProof.Rows L2
structure Fn (P : Program) (w : World) (K : PySem.W.Frag) (T : Tab) (mg : Str → Option Value) (base : Heap) (x : Str) (k : Nat) (dd : List D) (C : Ctr) : Prop where
  ex : ∃ (f : Addr) (fd : FuncData) (ps : List Str) (ds : List Value) (dvs : List V), mg x = some (.ref f) ∧ PySem.W.keepIn K (.ref f) = true ∧ Binds K fd ps ds ∧ Vals dvs ds ∧ isScs dd dvs ∧ FnOk P w K mg base CX0 k f fd ps (spC K T C)
structure Mt (P : Program) (w : World) (K : PySem.W.Frag) (T : Tab) (mg : Str → Option Value) (base : Heap) (c : Nat) (m : Str) (k : Nat) (dd : List D) (C : Ctr) : Prop where
  ex : ∃ (f : Addr) (fd : FuncData) (ps : List Str) (ds : List Value) (dvs : List V), Cls K (T c).1 ∧ Meth K (T c).1 m f ∧ m ∉ (T c).2 ∧ Binds K fd ps ds ∧ Vals dvs ds ∧ isScs dd dvs ∧ FnOk P w K mg base CX0 k f fd ps (spC K T C)
structure Mkr (P : Program) (w : World) (K : PySem.W.Frag) (T : Tab) (mg : Str → Option Value) (base : Heap) (x : Str) (c k : Nat) (dd : List D) (C : CtrI) : Prop where
  ex : ∃ (f : Addr) (fd : FuncData) (ps : List Str) (ds : List Value) (dvs : List V), Mk K (T c).1 f ∧ mg x = some (.ref (T c).1) ∧ Binds K fd ps ds ∧ Vals dvs ds ∧ isScs dd dvs ∧ FnOk P w K mg base CX0 k f fd ps (spI K T c C)
section
variable {X : Cx} {T : Tab} {x m : Str} {k c : Nat} {dd : List D} {C : Ctr} {Ci : CtrI} {p pos apos : Pos} {e o : Expr} {es : List Expr} {to : DTE} {t : DTA}
theorem pass0' {X : Cx} : Passes CX0 X (fun _ _ _ => True) := fun _ _ _ _ _ _ _ h => h.elim
theorem de_fn (F : Fn X.prog X.w X.K T X.mg X.base x k dd C) (hr : Room k X.A) (hg : Gl X x) (ha : PA X (e :: es) (UpA X.K T t)) (hdb : (x == ("__debug__" : Str)) = false := by decide) (he : starEach (e :: es) X.env = (false, eval e X.env) :: starEach es X.env := by rfl)
    (hpl : (backTo pos (starEach es X.env)).any (·.1) = false := by rfl) : PE X (.Call (.Name x p) (e :: es) [] pos) (UpE X.K T (dCall C dd t)) := by
  obtain ⟨f, fd, ps, ds, dvs, h1, h2, h3, h4, h5, h6⟩ := F.ex
  exact de_call h6 hr hg h1 h2 h3 h4 pass0' h5 ha hdb he hpl
end
/-- a def's entry in a head, its contract: what its callers need -/
theorem fn_mk {P : Program} {w : World} {K : PySem.W.Frag} {T : Tab} {mg : Str → Option Value} {base : Heap} {x qual : Str} {params : Arguments} {body : List Stmt} {scope : Scope} {f : Addr} {fd : FuncData} {ps : List Str} {k : Nat} {C : Ctr}
    (F : FunD K x qual params body scope [] [] f fd) (hm : mg x = some (.ref f)) (ok : FnOk P w K mg base CX0 k f fd ps (spC K T C))
    (hb : ∀ (kV doc pm : Value) (an : Option Addr) (cdv ct : Value) (us : List Value), us.length = ps.length → bindArgs (PySem.W.fnOf x qual params body scope .none kV doc pm an cdv ct) ⟨us, []⟩ = pure (ps.zip us)) : Fn P w K T mg base x k [] C :=
  ⟨f, fd, ps, [], [], hm, F.kp, F.bindsN hb, .nil, rfl, ok⟩
end DL
/-! DL11: several targets, stars in displays, comprehensions over a range, all, any, enumerate. -/
namespace DL
open PySem PySem.Spec PyProof.Rows L2
section
variable {K : PySem.W.Frag} {T : Tab} {S : Sit} {τ : DSt} {σ : L2.St} {H H1 H2 : Hp}
/-- a slot takes such a list -/
theorem SR.setQ {i : Nat} {p : Addr} {ds : List D} {vs : List V} (sr : SR K T S τ σ H) (e3 : S.P p) (e4 : S.B ≠ some p) (e5 : ¬ S.X p) (e2 : H p = some (.lst vs)) (r : RepsG K T S 2 H ds vs) (no : ∀ (j : Nat) (es : List D), τ[j]? = some (.own es) → σ[j]? ≠ some (some (.ref p))) (ns : ∀ (i : Nat) (g : SO), τ[i]? = some (.sto g) → ∀ o, g.g p ≠ some o) :
    SR K T S (τ.set i (.own ds)) (σ.set i (some (.ref p))) H := by
  have off : ∀ {j : Nat} {s : Sl}, i ≠ j → (τ.set i (.own ds))[j]? = some s → τ[j]? = some s := fun {j s} hj e => by
    rw [List.getElem?_set_ne hj] at e; exact e
  refine ⟨by rw [List.length_set, List.length_set]; exact sr.len, sr.bp, sr.al, sr.ml, sr.kp, sr.xp, sr.fr, sr.bl, sr.bag, sr.lp, fun j g d e => ?_, fun j es e => ?_, fun j c es e => ?_, sr.gh, fun j k es fs q q1 q2 q3 q4 => ?_, fun j x e => ((sr.st j x (set_sto (fun _ z => by cases z) e)).set fun c o m _ z => (by cases z; exact ns j x (set_sto (fun _ z => by cases z) e) o m)), fun j l x y q1 q2 => sr.su j l x y (set_sto (fun _ z => by cases z) q1) (set_sto (fun _ z => by cases z) q2)⟩
  · by_cases hj : i = j
    · subst hj; cases (set_at e).2
    · obtain ⟨hg, v, q1, h⟩ := sr.val j g d (off hj e)
      exact ⟨hg, v, by rw [List.getElem?_set_ne hj]; exact q1, h⟩
  · by_cases hj : i = j
    · subst hj
      obtain ⟨hi, q⟩ := set_at e
      cases q
      exact ⟨p, vs, List.getElem?_set_self (by rw [← sr.len]; exact hi), e2, e3, e4, e5, r⟩
    · obtain ⟨q, ws, q1, h⟩ := sr.own j es (off hj e)
      exact ⟨q, ws, by rw [List.getElem?_set_ne hj]; exact q1, h⟩
  · by_cases hj : i = j
    · subst hj; cases (set_at e).2
    · obtain ⟨z, q, dx, ws, q1, h⟩ := sr.ins j c es (off hj e)
      exact ⟨z, q, dx, ws, by rw [List.getElem?_set_ne hj]; exact q1, h⟩
  · by_cases hj : i = j
    · by_cases hk : i = k
      · rw [← hj, ← hk]
      · subst hj
        have hi := (set_at q1).1
        rw [List.getElem?_set_self (by rw [← sr.len]; exact hi)] at q3
        cases q3
        rw [List.getElem?_set_ne hk] at q4
        exact absurd q4 (no k fs (off hk q2))
    · by_cases hk : i = k
      · subst hk
        have hi := (set_at q2).1
        rw [List.getElem?_set_self (by rw [← sr.len]; exact hi)] at q4
        cases q4
        rw [List.getElem?_set_ne hj] at q3
        exact absurd q3 (no j es (off hj q1))
      · rw [List.getElem?_set_ne hj] at q3
        rw [List.getElem?_set_ne hk] at q4
        exact sr.inj j k es fs q (off hj q1) (off hk q2) q3 q4
end
/-! ### a, b = x, y -/
@[simp] def slW (o : Bool) (i : Nat) (τ : DSt) (R : DSt → Prop) (s : Sl) : Prop := match o with
  | true => setOQ i τ R s
  | false => setQ i τ R s
@[simp] def dPar (i j : Nat) (oi oj : Bool) (ta tb : DTE) : DTS := fun E τ => ta τ fun x => tb τ fun y => slW oi i τ (fun τ1 => slW oj j τ1 E.nx y) x
section
variable {X : Cx} {T : Tab} {a b : Expr} {ta tb : DTE} {x y : Str} {i j : Nat} {pos px py pt pt2 : Pos} {kt k2 : Nat}
/-- target = value, any target -/
@[simp] def dAsg (te : DTE) (tg : DTG) : DTS := fun E τ => te τ fun s => tg s.g s.d τ E.nx
theorem ds_asg {tg e : Expr} {te : DTE} {tgd : DTG} (he : PE X e (UpE X.K T te)) (hg : PG X tg (UpG X.K T tgd)) (hs : swapsWithSole [tg] e pos.line X.env = pure false := by rfl) (hw : swappedStores [tg] e X.env = pure none := by rfl)
    (h1 : (assignEach [tg] X.env).map (·.2) = [assign tg X.env] := by rfl) : PS X (.Assign [tg] e pos) (UpS X.K T ek (dAsg te tgd)) :=
  (ps_asg he hg hs hw h1).of fun E σ H ⟨S, τ, DD, sr, h, o⟩ => ⟨S, τ, _, sr, h, fun H1 v s a r q => ⟨S, τ, s.g, s.d, _, sr.aft a, r.g sr, q, fun τ' σ' H' s' _ q' => o.nx S.P τ' σ' H' s' q'⟩⟩
/-- stars in displays -/
@[simp] def aStar (te : DTE) (tr : DTA) : DTA := fun τ Q => te τ fun s => match elems s.d with
  | some ds => tr τ fun g es => Q (min (upl s.g ds) g) (ds ++ es)
  | none => False
theorem da_star {e : Expr} {es : List Expr} {te : DTE} {t : DTA} {p : Pos} (he : PE X e (UpE X.K T te)) (hr : PA X es (UpA X.K T t)) (hs : starEach (.Starred e p :: es) X.env = (true, eval e X.env) :: starEach es X.env := by rfl) : PA X (.Starred e p :: es) (UpA X.K T (aStar te t)) :=
  (StX.pa_star he hr hs).of fun σ H Q ⟨S, τ, QD, sr, h, k⟩ => ⟨S, τ, _, sr, h, fun H1 v s a r q => by
    have s1 := sr.aft a
    have rg := r.g sr
    cases ed : elems s.d with
    | none => rw [ed] at q; exact q.elim
    | some ds =>
      rw [ed] at q
      obtain ⟨p, us, rfl, hsq, rs⟩ := Rep.el rg ed
      refine ⟨p, us, rfl, hsq.symm, S, τ, _, s1, q, fun H2 vs g es a2 r2 q2 => ?_⟩
      have s2 := s1.aft a2
      exact k H2 (us ++ vs) _ (ds ++ es) (a.trans a2) (Reps.append (RepsG.le s2 (Nat.min_le_left _ _) (s1.reps a2.kp (RepsG.upl rs))) (RepsG.le s2 (Nat.min_le_right _ _) r2)) q2⟩
end
/-! ### all, any, sum -/
@[simp] def bools : List D → Option (List Bool)
  | [] => some []
  | .bl b :: ds => match bools ds with
    | some bs => some (b :: bs)
    | none => none
  | _ :: _ => none
@[simp] def fAll : DCB := fun _ ds Q => match ds with
  | [.lst es] => match bools es with
    | some bs => Q (.v 2 (.bl (bs.all id)))
    | none => False
  | _ => False
@[simp] def fAny : DCB := fun _ ds Q => match ds with
  | [.lst es] => match bools es with
    | some bs => Q (.v 2 (.bl (bs.any id)))
    | none => False
  | _ => False
section
variable {K : PySem.W.Frag} {T : Tab}
theorem bools_rep {B : Option Addr} {M : Addr → Prop} {H : Hp} : ∀ {es : List D} {bs : List Bool} {vs : List V}, bools es = some bs → Reps K T B M H es vs → vs = bs.map V.bl
  | [], bs, vs, e, r => by
    cases e
    exact r
  | .bl b :: ds, bs, vs, e, ⟨v, r, e1, h1, h2⟩ => by
    unfold bools at e
    cases eb : bools ds with
    | none => rw [eb] at e; cases e
    | some bs' =>
      rw [eb] at e
      cases e
      rw [e1, show v = V.bl b from h1, bools_rep eb h2]
      rfl
  | .non :: _, _, _, e, _ => by cases e
  | .int _ :: _, _, _, e, _ => by cases e
  | .str _ :: _, _, _, e, _ => by cases e
  | .tup _ :: _, _, _, e, _ => by cases e
  | .lst _ :: _, _, _, e, _ => by cases e
  | .obj _ _ :: _, _, _, e, _ => by cases e
  | .bag :: _, _, _, e, _ => by cases e
  | .cls _ :: _, _, _, e, _ => by cases e
  | .lat _ _ :: _, _, _, e, _ => by cases e
  | .scr _ :: _, _, _, e, _ => by cases e
  | .exn _ _ _ _ :: _, _, _, e, _ => by cases e
theorem cb_all : CBD K T (rAll K) fAll := by
  intro S τ σ H g ds vs QD Q sr r q k
  unfold fAll at q
  split at q
  · rename_i es
    obtain ⟨v, rfl, r0⟩ := r.one'
    obtain ⟨p, us, rfl, e1, e2, rs⟩ := r0
    split at q
    · rename_i bs eb
      have eu := bools_rep eb rs
      subst eu
      exact ⟨p, bs, rfl, SqL.of e1, k H _ (.v 2 (.bl _)) sr.same rfl q⟩
    · exact q.elim
  · exact q.elim
end
/-! ### comprehensions over a range -/
@[simp] def dLcR (ta : DTA) (tg : DTG) (tt : DTT) (te : DTE) (vs : List Nat) : DTE := fun τ Q => ta τ fun _ ds => match ds with
  | [.int j] => (-(2 ^ 62) ≤ j ∧ j < 2 ^ 62) ∧ compRec 2 tg tt te (wipeD τ vs) Q (rangeL 0 j.toNat) []
  | _ => False
@[simp] def dLcR2 (ta : DTA) (tg : DTG) (tt : DTT) (te : DTE) (vs : List Nat) : DTE := fun τ Q => ta τ fun _ ds => match ds with
  | [.int i, .int j] => (-(2 ^ 62) ≤ i ∧ i < 2 ^ 62 ∧ -(2 ^ 62) ≤ j ∧ j < 2 ^ 62) ∧ compRec 2 tg tt te (wipeD τ vs) Q (rangeL i (j - i).toNat) []
  | _ => False
section
variable {X : Cx} {T : Tab} {ta : DTA} {tgd : DTG} {tt : DTT} {te : DTE} {vs : List Nat} {σ : L2.St} {H : Hp} {Q : VK} {K : PySem.W.Frag}
theorem lcr_core {S : Sit} {τ : DSt} {QD : Sl → Prop} {H1 : Hp} {lo : Int} {n : Nat} (s1 : SR K T S τ σ H1) (q : compRec 2 tgd tt te (wipeD τ vs) QD (rangeL lo n) []) (k1 : ∀ H' v sl, Aft K T S H1 H' → RepSl K T S H1 H' sl v → QD sl → Q v H') {L : Addr} (hL : H1 L = none) :
    ∃ W : Nat → Nat → Hp → Prop, (∃ m, W 0 m (upd H1 L (.lst []))) ∧ ∀ i m H, W i m H →
      ((Itr lo n).stop i H ∧ Q (.ref L) H) ∨ ((Itr lo n).go i H ∧ ∃ Nx : Hp → Prop, (∀ H', Nx H' → ∃ m', m' < m ∧ W (i + 1) m' H') ∧ ∀ x H', (Itr lo n).yld i H x H' → UpGw K T vs tgd x (wipe σ vs) H' fun σ2 H2 => wipe σ2 vs = wipe σ vs ∧ UpT K T tt σ2 H2 fun b H3 =>
        if b = true then UpE K T te σ2 H3 fun y H4 => ∃ acc, H4 L = some (.lst acc) ∧ acc.length < sizeLine ∧ Nx (upd H4 L (.lst (acc ++ [y]))) else Nx H3) :=
  lc_core' (C := fun _ => True) s1 hL (fun _ _ => trivial) (fun i H' hi _ => by rw [rangeL_len] at hi; exact hi) (fun i H' x H'' _ y => ⟨y.1, fun d hd => by
    rw [rangeL_get n lo i d hd, y.2]
    exact rfl⟩) (fun H' _ => by
    show n ≤ (rangeL lo n).length
    rw [rangeL_len]; exact Nat.le_refl _) q k1
theorem lc_up1 (h : UpE K T (dLcR ta tgd tt te vs) σ H Q) : tLc (iRng1 (UpA K T ta)) (UpGw K T vs tgd) (UpT K T tt) (UpE K T te) vs σ H Q := by
  obtain ⟨S, τ, QD, sr, h, k⟩ := h
  refine ⟨S, τ, _, sr, h, fun H1 us g ds a r q => ?_⟩
  split at q
  · rename_i j
    obtain ⟨v, rfl, r0⟩ := r.one'
    obtain ⟨⟨q1, q2⟩, q⟩ := q
    exact ⟨j, by rw [show v = V.int j from r0], q1, q2, fun L hL => lcr_core (sr.aft a) q (fun H' v sl a' r' q' => k H' v sl (a.trans a') (r'.back a) q') hL⟩
  · exact q.elim
end
section
variable {X : Cx} {T : Tab} {elt tg iter a b : Expr} {ifs : List Expr} {scope : Scope} {own : List (Str × Nat)} {pos p1 p2 spos py : Pos} {ta : DTA} {tgd : DTG} {tt : DTT} {te : DTE} {wi : TI} {td : DTE} {i : Nat} {y : Str}
/-- a comprehension over whatever is walked (hu: how its reading comes from the data's) -/
theorem de_lcG (hu : ∀ σ H Q, UpE X.K T td σ H Q → tLc wi (UpGw X.K T (own.map (·.2)) tgd) (UpT X.K T tt) (UpE X.K T te) (own.map (·.2)) σ H Q) (hc : X.calm = true) (hN : X.N.Nodup) (hi : PI X tg iter wi) (ok : BlkOk X.N X.env.scope scope own)
    (hg : ∀ (s : Shared) (H : Hp) (C : Addr) (cl : List (Str × Addr)) (fp : List Addr), PG (X.blk s H scope (compEnvC scope cl C X.env) fp) tg (UpGw X.K T (own.map (·.2)) tgd)) (ht : ∀ (s : Shared) (H : Hp) (C : Addr) (cl : List (Str × Addr)) (fp : List Addr), PTs (X.blk s H scope (compEnvC scope cl C X.env) fp) ifs (UpT X.K T tt))
    (he : ∀ (s : Shared) (H : Hp) (C : Addr) (cl : List (Str × Addr)) (fp : List Addr), PE (X.blk s H scope (compEnvC scope cl C X.env) fp) elt (UpE X.K T te)) (hs : ∀ x, foldedSetIterable iter X.env x = pure x := by intro _; rfl) :
    PE X (.ListComp elt [⟨tg, iter, ifs, 0⟩] scope pos) (UpE X.K T td) := (pe_lc hc hN hi ok hg ht he hs).of hu
theorem ds_setLcG (hu : ∀ σ H Q, UpE X.K T td σ H Q → tLc wi (UpGw X.K T (own.map (·.2)) tgd) (UpT X.K T tt) (UpE X.K T te) (own.map (·.2)) σ H Q) (hc : X.calm = true) (hN : X.N.Nodup) (hy : X.N[i]? = some y) (hyl : X.env.scope.names.lookup y = some .local)
    (hsw : swapsWith (.ListComp elt [⟨tg, iter, ifs, 0⟩] scope pos) (some (.Name y py)) spos.line X.env = pure true) (hi : PI X tg iter wi) (ok : BlkOk X.N X.env.scope scope own)
    (hg : ∀ (s : Shared) (H : Hp) (C : Addr) (cl : List (Str × Addr)) (fp : List Addr), PG (X.blk s H scope (compEnvC scope cl C X.env) fp) tg (UpGw X.K T (own.map (·.2)) tgd)) (ht : ∀ (s : Shared) (H : Hp) (C : Addr) (cl : List (Str × Addr)) (fp : List Addr), PTs (X.blk s H scope (compEnvC scope cl C X.env) fp) ifs (UpT X.K T tt))
    (he : ∀ (s : Shared) (H : Hp) (C : Addr) (cl : List (Str × Addr)) (fp : List Addr), PE (X.blk s H scope (compEnvC scope cl C X.env) fp) elt (UpE X.K T te)) (hs : ∀ x, foldedSetIterable iter X.env x = pure x := by intro _; rfl) :
    PS X (.Assign [.Name y py] (.ListComp elt [⟨tg, iter, ifs, 0⟩] scope pos) spos) (UpS X.K T ek (dSet i td)) :=
  (ps_setLc hc hN hy hyl hsw hi ok hg ht he hs).of fun D σ H ⟨S, τ, DD, sr, h, o⟩ => hu _ _ _ ⟨S, τ, _, sr, h, fun H1 v sl a r q => out_set sr a r o q⟩
end
end DL
/-! DL12: what the printed derivations name. -/
namespace DL
open PySem PySem.Spec PyProof.Rows L2
theorem u64 {A : Around} {k : Nat} (hr : Room k A) : A.units + 64 < cLine := by have := hr.un; omega
theorem u65 {A : Around} {k : Nat} (hr : Room k A) : A.units + 65 < cLine := by have := hr.un; omega
abbrev fSub : DF2 := fI0 fun i j => .int (i - j)
abbrev fMod : DF2 := fI (fun _ j => 0 < j) fun i j => .int (i % j)
abbrev fDiv : DF2 := fI CDivW fun i j => .int (i / j)
abbrev fPow : DF2 := fI CPow fun i j => .int (i ^ j.toNat)
abbrev dNeg (ta : DTE) : DTE := fun τ Q => ta τ fun s => match s.d with | .int i => Q (.v 2 (.int (-i))) | _ => False
abbrev pLt : Int → Int → Bool := fun i j => decide (i < j)
abbrev pLe : Int → Int → Bool := fun i j => decide (i ≤ j)
abbrev pGt : Int → Int → Bool := fun i j => decide (j < i)
abbrev pGe : Int → Int → Bool := fun i j => decide (j ≤ i)
abbrev iAdd : Int → Int → Int := fun i j => i + j
abbrev iSub : Int → Int → Int := fun i j => i - j
@[simp] def dNever : DTS := fun _ _ => False
/-- names of the module that are built-ins -/
structure Bl (mg : Str → Option Value) : Prop where
  len_ : mg "len" = none
  range_ : mg "range" = none
  list_ : mg "list" = none
  tuple_ : mg "tuple" = none
  int_ : mg "int" = none
  max_ : mg "max" = none
  min_ : mg "min" = none
  all_ : mg "all" = none
  any_ : mg "any" = none
  enumerate_ : mg "enumerate" = none
  isinstance_ : mg "isinstance" = none
  sorted_ : mg "sorted" = none
  set_ : mg "set" = none
  sum_ : mg "sum" = none
  str_ : mg "str" = none
  repr_ : mg "repr" = none
  bool_ : mg "bool" = none
section
variable {X : Cx} {T : Tab}
theorem dt_chain {a b c : Expr} {pos : Pos} {ta tb tc : DTE} {op op' : CmpOp} {p q : Int → Int → Bool} (ho : OpR X (compareOp op) (rI0 fun i j => .bl (p i j))) (ho' : OpR X (compareOp op') (rI0 fun i j => .bl (q i j))) (ha : PE X a (UpE X.K T ta)) (hb : PE X b (UpE X.K T tb)) (hc : PE X c (UpE X.K T tc))
    (hm : PT X (.Compare a [op, op'] [b, c] pos) (tTest (tChain (rI0 fun i j => .bl (p i j)) (rI0 fun i j => .bl (q i j)) (UpE X.K T ta) (UpE X.K T tb) (UpE X.K T tc)))) : PT X (.Compare a [op, op'] [b, c] pos) (UpT X.K T (tV (dChain p q ta tb tc))) :=
  hm.of fun σ H Q ⟨S, τ, QD, sr, h, k⟩ => ⟨S, τ, _, sr, h, fun H1 v x a1 r1 q1 => ⟨S, τ, _, sr.aft a1, q1, fun H2 u y a2 r2 q2 => by
    have s1 := sr.aft a1
    have s2 := s1.aft a2
    have r1' := s1.rep a2.kp (r1.g sr)
    have r2' := r2.g s1
    split at q2
    · rename_i i j e1 e2
      rw [e1] at r1'
      rw [e2] at r2'
      refine ⟨i, j, r1', r2', p i j, rfl, ?_⟩
      cases hp : p i j with
      | false =>
        rw [hp] at q2
        exact ⟨false, rfl, k H2 false (a1.trans a2) q2⟩
      | true =>
        rw [hp] at q2
        refine ⟨S, τ, _, s2, q2, fun H3 w z a3 r3 q3 => ?_⟩
        have r3' := r3.g s2
        split at q3
        · rename_i n e3
          rw [e3] at r3'
          exact ⟨j, n, (by rw [r2']), r3', q j n, rfl, k H3 _ (a1.trans (a2.trans a3)) q3⟩
        · exact q3.elim
    · exact q2.elim⟩⟩
end
/-! the names that a pattern binds, in order -/
mutual
def pNames : DP → Option (List Str)
  | .val _ => some []
  | .non => some []
  | .cap none => some []
  | .cap (some n) => some [n]
  | .seq ps => psNames ps
  | .as p n => match pNames p with
    | some ns => some (ns ++ [n])
    | none => none
  | .or ps => match orNames ps with
    | true => some []
    | false => none
def psNames : List DP → Option (List Str)
  | [] => some []
  | p :: ps => match pNames p, psNames ps with
    | some a, some b => some (a ++ b)
    | _, _ => none
def orNames : List DP → Bool
  | [] => true
  | p :: ps => match pNames p with
    | some [] => orNames ps
    | _ => false
end
mutual
theorem patD_names : ∀ (p : DP) (ns : List Str) (d : D) (caps : Caps), pNames p = some ns → patD p d = some caps → caps.map (·.1) = ns
  | .val x, ns, d, caps, h, e => by
    cases h
    unfold patD at e
    cases q : eqB d (.str x) <;> rw [q] at e <;> cases e
    rfl
  | .non, ns, d, caps, h, e => by
    cases h
    unfold patD at e
    cases q : isNon d <;> rw [q] at e <;> cases e
    rfl
  | .cap none, ns, d, caps, h, e => by cases h; cases e; rfl
  | .cap (some n), ns, d, caps, h, e => by cases h; cases e; rfl
  | .seq ps, ns, d, caps, h, e => by
    cases d <;> first | exact patDs_names ps ns _ caps h e | cases e
  | .as p n, ns, d, caps, h, e => by
    unfold pNames at h
    unfold patD at e
    cases q : pNames p with
    | none => rw [q] at h; cases h
    | some ms =>
      rw [q] at h
      cases h
      cases q2 : patD p d with
      | none => rw [q2] at e; cases e
      | some cs =>
        rw [q2] at e
        cases e
        rw [List.map_append, patD_names p ms d cs q q2]
        rfl
  | .or ps, ns, d, caps, h, e => by
    unfold pNames at h
    unfold patD at e
    cases q : orNames ps with
    | false => rw [q] at h; cases h
    | true =>
      rw [q] at h
      cases h
      exact patOr_names ps d caps q e
theorem patDs_names : ∀ (ps : List DP) (ns : List Str) (ds : List D) (caps : Caps), psNames ps = some ns → patDs ps ds = some caps → caps.map (·.1) = ns
  | [], ns, ds, caps, h, e => by
    cases h
    cases ds with
    | nil => cases e; rfl
    | cons d ds => cases e
  | p :: ps, ns, ds, caps, h, e => by
    cases ds with
    | nil => cases e
    | cons d ds =>
      unfold psNames at h
      unfold patDs at e
      cases q1 : pNames p with
      | none => rw [q1] at h; cases h
      | some a =>
        cases q2 : psNames ps with
        | none => rw [q1, q2] at h; cases h
        | some b =>
          rw [q1, q2] at h
          cases h
          cases e1 : patD p d with
          | none => rw [e1] at e; cases e
          | some c1 =>
            rw [e1] at e
            cases e2 : patDs ps ds with
            | none => rw [e2] at e; cases e
            | some c2 =>
              rw [e2] at e
              cases e
              rw [List.map_append, patD_names p a d c1 q1 e1, patDs_names ps b ds c2 q2 e2]
theorem patOr_names : ∀ (ps : List DP) (d : D) (caps : Caps), orNames ps = true → patOr ps d = some caps → caps.map (·.1) = []
  | [], d, caps, h, e => by cases e
  | p :: ps, d, caps, h, e => by
    unfold orNames at h
    unfold patOr at e
    cases q1 : pNames p with
    | none => rw [q1] at h; cases h
    | some a =>
      rw [q1] at h
      cases a with
      | cons n ns => cases h
      | nil =>
        cases e1 : patD p d with
        | none => rw [e1] at e; exact patOr_names ps d caps h e
        | some c1 =>
          rw [e1] at e
          cases e
          exact patD_names p [] d _ q1 e1
end
section
variable {X : Cx} {T : Tab}
theorem pcs_c {p : Pattern} {body : List Stmt} {rest : List MatchCase} {dp : DP} {ix : List Nat} {ns : List Str} {tb : DTS} {cs : List DCase} (hN : X.N.Nodup) (hp : PPat X T p dp) (hn : NamesAt X ns ix) (hd : pNames dp = some ns) (hb : PSs X body (UpS X.K T ek tb)) (hr : PCs X T ek rest cs) :
    PCs X T ek (⟨p, none, body⟩ :: rest) (⟨dp, ix, tb⟩ :: cs) := pcs_cons hN hp hn (fun d caps e => patD_names dp ns d caps hd e) hb hr
end
end DL
/-! DL13: enumerate of a list or a tuple, walked by a for. -/
namespace DL
open PySem PySem.Spec PyProof.Rows L2
set_option maxHeartbeats 2000000 in
theorem meets_enum_any {v : Value} {o : Obj} {J : Heap → Prop} (B : Begins v o J) :
    Meets (Builtin.«enumerate.__new__» ⟨[.type "enumerate", v], []⟩) (fun _ R s => J s.heap ∧
      R (.ok (.ret (.ref (s.heap.push o).objs.size))) { s with heap := (s.heap.push o).push { cls := .type "enumerate", data := .fields #[.none, .bool false, .ref s.heap.objs.size, rawInt 0, .none, .none] } }) :=
  .of_wp fun prog w A R s h => by
    obtain ⟨hp, gg, dd, tk, os⟩ := s
    obtain ⟨hj, h⟩ := h
    have hsub := sub_enumerate
    have itr : ∀ {A' : Around} {E' : Value → Shared → Prop} {Q' : Value → Shared → Prop}, Q' (.ref hp.objs.size) ⟨hp.push o, gg, dd, tk, os⟩ → wpAny (model prog w) A' (pyIter v) Q' E' ⟨hp, gg, dd, tk, os⟩ :=
      fun z => B.iter prog w _ _ ⟨hp, gg, dd, tk, os⟩ _ hj z
    wp_walk using itr
    refine wpAny_stack_any fun stk => wpAny_pure ?_
    split
    · rename_i cc _ _ _ _ _
      cases (cc == Value.type "enumerate")
      · wp_walk using itr
        exact ⟨_, rfl, h⟩
      · wp_walk using itr
        exact ⟨_, rfl, h⟩
    · wp_walk using itr
      exact ⟨_, rfl, h⟩
section
variable {prog : Program} {w : World} {A : Around} {E : Value → Shared → Prop} {s : Shared}
theorem call_enum_any {v : Value} {o : Obj} {J : Heap → Prop} {Q : Value → Shared → Prop} (B : Begins v o J) (hj : J s.heap)
    (k : ∀ h', IsEnum h' (s.heap.objs.size + 1) s.heap.objs.size 0 .none → h'.get? s.heap.objs.size = some o → (∀ b u, s.heap.get? b = some u → h'.get? b = some u) → Q (.ref (s.heap.objs.size + 1)) { s with heap := h' }) :
    wpAny (model prog w) A (call (.type "enumerate") [v]) Q E s := by
  refine callType_new F.called_enumerate (by decide) (F.typeCall_enumerate_1 _) (F.newCall_enumerate_1 _) (fun ob => F.args_object_init_2 ob _) F.entry_enumerate_new (meets_enum_any B) ⟨hj, ?_⟩
  have hz : (s.heap.push o).objs.size = s.heap.objs.size + 1 := Heap.size_push ..
  show _ ∧ _
  rw [hz]
  have he : IsEnum ((s.heap.push o).push { cls := .type "enumerate", data := .fields #[.none, .bool false, .ref s.heap.objs.size, rawInt 0, .none, .none] }) (s.heap.objs.size + 1) s.heap.objs.size 0 .none := by
    have z := Heap.get?_push_size (s.heap.push o) (o := { cls := .type "enumerate", data := .fields #[.none, .bool false, .ref s.heap.objs.size, rawInt 0, .none, .none] }) rfl
    rw [hz] at z; exact z
  exact ⟨⟨_, he, rfl⟩, k _ he (Heap.get?_push_of_some _ (Heap.get?_push_size _ B.free)) fun b u x => Heap.get?_push_of_some _ (Heap.get?_push_of_some _ x)⟩
end
/-- the tuple at a, each item in a new pair -/
def IteT (K : PySem.W.Frag) (a : Addr) : It :=
  ⟨fun i H => ∃ (xs : List V) (x : V), SqT K H a xs ∧ xs[i]? = some x, fun i H v H' => ∃ T x, v = .ref T ∧ H T = none ∧ H' = upd H T (.tup [.int (i : Nat), x]) ∧ ∀ xs, SqT K H a xs → xs[i]? = some x, fun i H => ∃ xs : List V, SqT K H a xs ∧ xs.length ≤ i⟩
theorem turn_enumT {P : Program} {w : World} {K : PySem.W.Frag} {elts : List Expr} {kk : Nat} {tpos : Pos} (a e it : Addr) (hai : a ≠ it) (hae : a ≠ e) :
    Turn P w K (.Tuple elts kk tpos) (IteT K a) [e, it] e (fun i h => (∃ old, IsEnum h e it ((i : Nat) : Int) old) ∧ h.IsTupleIter it a i ∧ e ≠ it) where
  mem := List.mem_cons_self
  obj := fun i h st b hb => by
    obtain ⟨⟨old, he⟩, ⟨ob, ho, hc, hd⟩, _⟩ := st
    rcases List.mem_cons.mp hb with z | hb
    · rw [z]; exact ⟨_, he, fun v q => nomatch q⟩
    · rw [List.mem_singleton.mp hb]; exact ⟨ob, ho, fun v q => by rw [hd] at q; cases q⟩
  keep := fun i h h' st k => let ⟨⟨old, he⟩, hi, hne⟩ := st; ⟨⟨old, k e List.mem_cons_self _ he⟩, hi.at fun ob q => k it (List.mem_cons_of_mem _ List.mem_cons_self) ob q, hne⟩
  item := by
    intro X hP hw hK hc i pins s σ H E' I hf st hg
    subst hP hw hK
    obtain ⟨⟨old, he⟩, hit, hne⟩ := st
    obtain ⟨xs, x, hq, hx⟩ := hg
    obtain ⟨its, rv, p, hz⟩ := I.tuple hq
    obtain ⟨u, hu, ru⟩ := rv.get hx
    have hel : e < s.heap.objs.size := Heap.lt_size he
    have hil : it < s.heap.objs.size := by obtain ⟨_, q, _⟩ := hit; exact Heap.lt_size q
    have hlt : i < its.toArray.size := by
      rw [List.size_toArray]
      exact (List.getElem?_eq_some_iff.mp hu).1
    refine wpAny_pyNext_enum_itemD (Draws.tuple (prog := X.prog) (w := X.w) (A := X.A.in1) (I.ok.hd hc) it a hai its.toArray) he ⟨hit, p⟩ hlt hne (by simp [hne, Ne.symm hae]) fun y h' tk hy ho hst' hT hsz hk => ?_
    have ey : y = u := by
      have hy : its.toArray[i]? = some y := hy
      rw [List.getElem?_toArray, hu] at hy
      exact (Option.some.inj hy).symm
    subst ey
    obtain ⟨hit', _⟩ := hst'
    refine ⟨_, rfl, wpAny_letOwnedTupleGo_enum (s := { s with heap := h', toks := tk + 1 }) ho fun h'' he' sb => ?_⟩
    have hT2 : h''.get? s.heap.objs.size = some { cls := .type "tuple", data := .seq #[.int i tk, y] } := (sb.2 _ (Nat.ne_of_gt hel)).trans hT
    have new : ObjOk X.prog X.w (upd H s.heap.objs.size (.tup [.int (i : Nat), x])) h'' s.heap.objs.size (.tup [.int (i : Nat), x]) :=
      ⟨by show 2 ≤ sizeLine; decide, [.int i tk, y], .cons ⟨_, rfl⟩ (.cons ru .nil), ⟨_, hT2, rfl, _, rfl⟩⟩
    have I1 : Inv X pins σ (upd H s.heap.objs.size (.tup [.int (i : Nat), x])) { s with heap := h'', toks := tk + 1 } :=
      I.turnedNew (ch := [e, it]) (fun b ob hb q => (sb.2 b fun z => hb (by simp [z])).trans (hk b ob (fun z => hb (by simp [z])) (fun z => hb (by simp [z])) q)) hf (Nat.le_refl _) new
    refine ⟨.ref s.heap.objs.size, _, I1, rfl, ⟨_, x, rfl, I.hok.fresh (Nat.le_refl _), rfl, fun ys hy => by rw [I.tuple_inj hy hq]; exact hx⟩, ⟨⟨y, ?_⟩, hit'.at fun ob q => (sb.2 it (Ne.symm hne)).trans q, hne⟩, fun b hb => ?_⟩
    · have e1 : ((i + 1 : Nat) : Int) = (i : Int) + 1 := by omega
      rw [e1]; exact he'
    · have hb' : b < s.heap.objs.size := by
        rcases List.mem_cons.mp hb with z | hb
        · rw [z]; exact hel
        · rw [List.mem_singleton.mp hb]; exact hil
      rw [upd_ne (Nat.ne_of_lt hb')]
      exact (hf b hb).1
  done := by
    intro X hP hw hK hc i pins s σ H E' I hf st hg
    subst hP hw hK
    obtain ⟨⟨old, he⟩, hit, hne⟩ := st
    obtain ⟨xs, hq, hx⟩ := hg
    obtain ⟨its, rv, p, hz⟩ := I.tuple hq
    obtain ⟨f0, f1, f2, f3, f4, f5⟩ := hf it (List.mem_cons_of_mem _ List.mem_cons_self)
    have hl := rv.length
    have hT : s.TypeIs (.ref e) "enumerate" := ⟨_, he, rfl⟩
    unfold pyNext
    refine wpAny_bind (wpAny_attempt (wpAny_callSpecial?_slot (name := Str.ofString "__next__") hT F.slot_enumerate_next (wpAny_call_entry F.slot_enumerate_next hT F.entry_enumerate_next ?_ (F.args_enumerate_next_1 _))))
    show wpAny _ _ (field (.ref e) 2 >>= _) _ _ _
    refine wpAny_bind (wpAny_field he rfl (x := .ref it) rfl ?_)
    refine wpAny_bind (wpAny_nextOf_tuple_end (I.ok.hd hc) hit p (by simp; omega) fun h' xx he' hx' => ?_)
    obtain ⟨ob, ho, hcl⟩ := hx'
    refine wpAny_bind (wpAny_isInstance (T := "StopIteration") (b := true) ⟨ob, ho, hcl⟩ isSubtype_stop ?_)
    exact wpAny_pure ⟨rfl, I.turned (t' := s.toks) (fun b o hb q => he' b o hb q) f0 f1 f3 f4 f5⟩
  self := fun A i s Q E' st h => let ⟨⟨_, he⟩, _⟩ := st; wpAny_pyIter_enum he h
def iEnumA (K : PySem.W.Frag) (ta : TA) : TI := fun σ H R => ta σ H fun vs H1 => ∃ a, vs = [.ref a] ∧ (((∃ xs, SqL K H1 a xs) ∧ R (Ite K a) H1) ∨ ((∃ xs, SqT K H1 a xs) ∧ R (IteT K a) H1))
theorem pi_enumA {X : Cx} {e : Expr} {ta : TA} {p pos tpos : Pos} {elts : List Expr} {kk : Nat} (hg : Gl X "enumerate") (hm : X.mg "enumerate" = none) (ha : PA X [e] ta) (hs : starEach [e] X.env = [(false, eval e X.env)] := by rfl) :
    PI X (.Tuple elts kk tpos) (.Call (.Name "enumerate" p) [e] [] pos) (iEnumA X.K ta) :=
  ⟨fun pins s σ H R I h => Call_ (ld_blt I hg hm boot_enumerate (PyProof.Rows.callWith_type1 (thn (ha.run pos pins s σ H _ I h) fun us s1 ⟨vs, H1, I1, r1, q1⟩ => by
    obtain ⟨a, rfl, q⟩ := q1
    obtain ⟨u, rfl, ru⟩ := vals1 r1
    cases ru
    have fresh : ∀ b, b = s1.heap.objs.size + 1 ∨ b = s1.heap.objs.size → s1.heap.objs.size ≤ b := fun b z => by
      rcases z with z | z
      · rw [z]; exact Nat.le_add_right _ _
      · rw [z]; exact Nat.le_refl _
    have two : ∀ b, b ∈ [s1.heap.objs.size + 1, s1.heap.objs.size] → FpOk X pins H1 b := fun b hb => by
      have z : b = s1.heap.objs.size + 1 ∨ b = s1.heap.objs.size := by simpa using hb
      exact I1.fpOk (fresh b z) (I1.hok.fresh (fresh b z))
    rcases q with ⟨⟨xs, hq⟩, q⟩ | ⟨⟨xs, hq⟩, q⟩
    · obtain ⟨its, rv, p', hz⟩ := I1.list hq
      refine call_enumerate_list p'.isList fun h' he hit hsz hk => wpAny_pyIter_enum he ?_
      have I2 : Inv X pins σ H1 { s1 with heap := h' } := I1.kept (t' := s1.toks) hk
      exact ⟨s1.heap.objs.size + 1, [s1.heap.objs.size + 1, s1.heap.objs.size], _, _, H1, rfl, I2, turn_enum a (s1.heap.objs.size + 1) s1.heap.objs.size, ⟨⟨.none, he⟩, hit, Nat.succ_ne_self _⟩, two, q⟩
    · obtain ⟨its, rv, p', hz⟩ := I1.tuple hq
      have hlt : a < s1.heap.objs.size := p'.lt
      refine call_enum_any (begins_tuple a its.toArray) p' fun h' he hit hk => wpAny_pyIter_enum he ?_
      have I2 : Inv X pins σ H1 { s1 with heap := h' } := I1.kept (t' := s1.toks) hk
      exact ⟨s1.heap.objs.size + 1, [s1.heap.objs.size + 1, s1.heap.objs.size], _, _, H1, rfl, I2, turn_enumT a (s1.heap.objs.size + 1) s1.heap.objs.size (Nat.ne_of_lt hlt) (Nat.ne_of_lt (Nat.lt_succ_of_lt hlt)), ⟨⟨.none, he⟩, ⟨_, hit, rfl, rfl⟩, Nat.succ_ne_self _⟩, two, q⟩) hs rfl))⟩
@[simp] def enumL (i : Int) : List D → List D
  | [] => []
  | d :: ds => .tup [.int i, d] :: enumL (i + 1) ds
theorem enumL_len : ∀ (ds : List D) (i : Int), (enumL i ds).length = ds.length
  | [], _ => rfl
  | d :: ds, i => by rw [enumL, List.length_cons, List.length_cons, enumL_len ds]
theorem enumL_get : ∀ (ds : List D) (lo : Int) (i : Nat) (d : D), (enumL lo ds)[i]? = some d → ∃ x, ds[i]? = some x ∧ d = .tup [.int (lo + i), x]
  | [], _, _, _, h => by simp at h
  | x :: ds, lo, 0, d, h => by
    rw [enumL, List.getElem?_cons_zero] at h
    exact ⟨x, rfl, by rw [← Option.some.inj h]; simp⟩
  | x :: ds, lo, i + 1, d, h => by
    rw [enumL, List.getElem?_cons_succ] at h
    obtain ⟨y, h1, h2⟩ := enumL_get ds (lo + 1) i d h
    refine ⟨y, by rw [List.getElem?_cons_succ]; exact h1, ?_⟩
    rw [h2]
    have e : lo + 1 + (i : Int) = lo + ((i + 1 : Nat) : Int) := by omega
    rw [e]
@[simp] def dForE (ta : DTA) (tg : DTG) (tb : DTS) : DTS := fun E τ => ta τ fun g ds => match ds with
  | [d] => match elems d with
    | some es => Nat.ble 1 (up g d) = true ∧ forRec (up g d) tg tb E (enumL 0 es) τ
    | none => False
  | _ => False
section
variable {X : Cx} {T : Tab} {a : Expr} {elts : List Expr} {kk : Nat} {tpos : Pos} {body : List Stmt} {ta : DTA} {tgd : DTG} {tb : DTS} {pos p1 p2 : Pos}
theorem ds_forE (hp : PassesOwn (model X.prog X.w) X.A X.env X.xe) (hc : X.calm = true) (hg0 : Gl X "enumerate") (hm : X.mg "enumerate" = none) (ha : PA X [a] (UpA X.K T ta)) (hg : PG X (.Tuple elts kk tpos) (UpG X.K T tgd)) (hb : PSs X body (UpS X.K T ek tb))
    (hs : starEach [a] X.env = [(false, eval a X.env)] := by rfl) (hf : ∀ x, foldedSetIterable (.Call (.Name "enumerate" p1) [a] [] p2) X.env x = pure x := by intro _; rfl) : PS X (.For (.Tuple elts kk tpos) (.Call (.Name "enumerate" p1) [a] [] p2) body [] pos) (UpS X.K T ek (dForE ta tgd tb)) :=
  (ps_for hp hc (pi_enumA hg0 hm ha hs) hg hb hf).of fun E σ H ⟨S, τ, DD, sr, h, o⟩ => ⟨S, τ, _, sr, h, fun H1 vs g ds a r q => by
    have s1 := sr.aft a
    split at q
    · rename_i d
      obtain ⟨v, rfl, r0⟩ := r.one'
      have rg := RepG.up r0
      generalize hgg : up g d = gg at rg q
      have hcl : ∀ {P' : Addr → Prop} {τ' : DSt} {σ' : L2.St} {H' : Hp}, SR X.K T { S with P := P', G := (gg, d, v) :: S.G } τ' σ' H' → RepG X.K T { S with P := P' } gg H' d v := fun {P' τ' σ' H'} z => by
        have w := (z.gh _ List.mem_cons_self).2
        match gg, w with
        | 0, h => exact h
        | 1, h => exact h
        | g + 2, h => exact h
      have hdr : ∀ P' τ' σ' H', SR X.K T { S with P := P', G := (gg, d, v) :: S.G } τ' σ' H' → SR X.K T { S with P := P' } τ' σ' H' := fun P' τ' σ' H' z => SR.ungh (S := { S with P := P' }) z
      cases d with
      | lst es =>
        obtain ⟨hg1, q⟩ := q
        have s2 := s1.gho (Nat.le_of_ble_eq_true hg1) rg
        obtain ⟨p, vs, rfl, e1, e2, rs⟩ := rg
        refine ⟨p, rfl, .inl ⟨⟨vs, SqL.of e1⟩, for_core (C := fun P' H' => RepG X.K T { S with P := P' } gg H' (.lst es) (.ref p)) hdr (fun P' τ' σ' H' z => hcl z) (fun P' i H' hi ⟨p2, us, e, f1, f2, f3⟩ => ?_) (fun P' i H' x H'' ⟨p2, us, e, f1, f2, f3⟩ ⟨Tt, y, e5, e6, e7, e8⟩ => ?_) (fun P' H' ⟨p2, us, e, f1, f2, f3⟩ => ?_) s2 q o⟩⟩
        · cases e
          rw [enumL_len] at hi
          obtain ⟨w, ew, _⟩ := f3.get (List.getElem?_eq_getElem hi)
          exact ⟨us, w, SqL.of f1, ew⟩
        · cases e
          subst e5 e7
          have kk : Kp (fun _ => False) H' (upd H' Tt (.tup [.int (i : Nat), y])) := Kp.laid e6
          refine ⟨⟨kk, Tk.laid e6⟩, fun d hd => ?_⟩
          obtain ⟨x, hx, rfl⟩ := enumL_get es 0 i d hd
          obtain ⟨w, ew, rw'⟩ := f3.get hx
          have := e8 us (SqL.of f1)
          rw [ew] at this
          cases this
          exact ⟨Tt, [.int (i : Nat), y], rfl, SqT.of upd_same, .int (i : Nat), [y], rfl, (by show V.int _ = V.int _; congr 1; omega), y, [], rfl, Rep.kp kk (fun _ z => z.elim) _ _ rw', rfl⟩
        · cases e
          exact ⟨us, SqL.of f1, by rw [f3.len, enumL_len]; exact Nat.le_refl _⟩
      | tup es =>
        obtain ⟨hg1, q⟩ := q
        have s2 := s1.gho (Nat.le_of_ble_eq_true hg1) rg
        obtain ⟨p, vs, rfl, e1, rs⟩ := rg
        refine ⟨p, rfl, .inr ⟨⟨vs, e1⟩, for_core (C := fun P' H' => RepG X.K T { S with P := P' } gg H' (.tup es) (.ref p)) hdr (fun P' τ' σ' H' z => hcl z) (fun P' i H' hi ⟨p2, us, e, f1, f3⟩ => ?_) (fun P' i H' x H'' ⟨p2, us, e, f1, f3⟩ ⟨Tt, y, e5, e6, e7, e8⟩ => ?_) (fun P' H' ⟨p2, us, e, f1, f3⟩ => ?_) s2 q o⟩⟩
        · cases e
          rw [enumL_len] at hi
          obtain ⟨w, ew, _⟩ := f3.get (List.getElem?_eq_getElem hi)
          exact ⟨us, w, f1, ew⟩
        · cases e
          subst e5 e7
          have kk : Kp (fun _ => False) H' (upd H' Tt (.tup [.int (i : Nat), y])) := Kp.laid e6
          refine ⟨⟨kk, Tk.laid e6⟩, fun d hd => ?_⟩
          obtain ⟨x, hx, rfl⟩ := enumL_get es 0 i d hd
          obtain ⟨w, ew, rw'⟩ := f3.get hx
          have := e8 us f1
          rw [ew] at this
          cases this
          exact ⟨Tt, [.int (i : Nat), y], rfl, SqT.of upd_same, .int (i : Nat), [y], rfl, (by show V.int _ = V.int _; congr 1; omega), y, [], rfl, Rep.kp kk (fun _ z => z.elim) _ _ rw', rfl⟩
        · cases e
          exact ⟨us, f1, by rw [f3.len, enumL_len]; exact Nat.le_refl _⟩
      | _ => exact (show False from q).elim
    · exact q.elim⟩
end
end DL
/-! DL14: bodies of __init__, constants of classes, classmethods, classes as values. -/
namespace DL
open PySem PySem.Spec PyProof.Rows L2
section
variable {K : PySem.W.Frag} {T : Tab} {S : Sit} {τ : DSt} {σ : L2.St} {H H' : Hp}
end
/-- self.f = e, the next attribute -/
@[simp] def dPutF (c j : Nat) (te : DTE) : DTS := fun D τ => te τ fun sl => sto sl = true ∧ match τ[(0 : Nat)]? with
  | some (.ins c' ds) => c' = c ∧ ds.length = j ∧ D.nx (τ.set 0 (.ins c (ds ++ [sl.d])))
  | _ => False
/-- self.f, read -/
@[simp] def dFldI (c j : Nat) : DTE := fun τ Q => match τ[(0 : Nat)]? with
  | some (.ins c' ds) => c' = c ∧ match ds[j]? with
    | some d => Q (.v 2 d)
    | none => False
  | _ => False
section
variable {X : Cx} {T : Tab} {e : Expr} {te : DTE} {pos pos' pos'' p : Pos} {x f : Str} {c j : Nat}
end
/-- the slots at the entry of an __init__ -/
@[simp] def startI (N : List Str) (c : Nat) (ds : List D) : DSt := Sl.ins c [] :: (ds.map (fun d => Sl.v (up 1 d) d) ++ List.replicate (N.length - (ds.length + 1)) .un)
/-- the end of an __init__ -/
@[simp] def endI (c n : Nat) (QD : List D → Prop) : DSt → Prop := fun τ => match τ[(0 : Nat)]? with
  | some (.ins c' fs) => c' = c ∧ fs.length = n ∧ QD fs
  | _ => False
section
variable {P : Program} {w : World} {K : PySem.W.Frag} {T : Tab} {mg : Str → Option Value} {base : Heap} {x qual : Str} {params : Arguments} {body : List Stmt} {scope : Scope} {dvs : List V} {kws : List (Str × V)} {f : Addr} {fd : FuncData} {N ps : List Str} {k : Nat}
end
end DL
/-! DL15: constants, classmethods, classes as values, isinstance, properties. -/
namespace DL
open PySem PySem.Spec PyProof.Rows L2
/-! ### names of the module -/
section
variable {X : Cx} {T : Tab} {x f m : Str} {pos p apos : Pos} {c k : Nat} {e o : Expr} {es : List Expr} {t : DTA}
/-- data that stands in the module for good -/
def KRep (K : PySem.W.Frag) (T : Tab) (d : D) (v : V) : Prop := ∀ (B : Option Addr) (M : Addr → Prop) (H : Hp), Rep K T B M H d v
structure Cst (K : PySem.W.Frag) (T : Tab) (mg : Str → Option Value) (x : Str) (d : D) : Prop where
  ex : ∃ (v : V) (u : Value), mg x = some u ∧ RelV v u ∧ KRep K T d v
theorem de_cst {d : D} (h : Cst X.K T X.mg x d) (hg : Gl X x) (hd : (x == ("__debug__" : Str)) = false := by decide) : PE X (.Name x pos) (UpE X.K T (dK d)) := by
  obtain ⟨v, u, h1, h2, h3⟩ := h.ex
  exact (pe_glob hg h1 h2 hd).of fun σ H Q ⟨S, τ, QD, sr, h, k⟩ => k H v (.v 2 d) sr.same (h3 _ _ _) h
/-- C.f, a constant of a class -/
structure CCst (K : PySem.W.Frag) (T : Tab) (mg : Str → Option Value) (x : Str) (c : Nat) (f : Str) (d : D) : Prop where
  ex : mg x = some (.ref (T c).1) ∧ ∃ (mc : Value) (v : V) (u : Value), ClX.CRead K (T c).1 mc ∧ ClX.CVal K (T c).1 mc f v u ∧ KRep K T d v
end

/-! ### classmethods -/
/-- C.m of the class c, a classmethod; its def keeps C -/
structure Cm (P : Program) (w : World) (K : PySem.W.Frag) (T : Tab) (mg : Str → Option Value) (base : Heap) (x : Str) (c : Nat) (m : Str) (k : Nat) (dd : List D) (C : Ctr) : Prop where
  ex : mg x = some (.ref (T c).1) ∧ ∃ (mc : Value) (p g : Addr) (fd : FuncData) (ps : List Str) (ds : List Value) (dvs : List V), ClX.CRead K (T c).1 mc ∧ ClX.CMet K (T c).1 mc m p g ∧ Binds K fd ps ds ∧ Vals dvs ds ∧ isScs dd dvs ∧ FnOk P w K mg base CX0 k g fd ps (spC K T C)
@[simp] def dCm (c : Nat) (C : Ctr) (dd : List D) (ta : DTA) : DTE := fun τ Q => ta τ fun _ ds => C (.cls c :: (ds ++ dd)) Q
section
variable {X : Cx} {T : Tab} {CX : CXT} {x m : Str} {pos p apos : Pos} {c k : Nat} {e o : Expr} {es : List Expr} {t : DTA} {C : Ctr} {dd : List D} {sp : Sp} {E : XK} {mc : Value} {q g C0 : Addr} {pl : Sem Bool} {ta : TE}
end

/-! ### a class in a local, made -/
@[simp] def dMakeL (i c : Nat) (C : CtrI) (dd : List D) (ta : DTA) : DTE := fun τ Q => dVar i τ fun s => s.d = .cls c ∧ ta τ fun _ ds => C (ds ++ dd) fun fs => Q (.v 2 (.obj c fs))
section
variable {X : Cx} {T : Tab} {x y : Str} {pos p : Pos} {i c k : Nat} {e : Expr} {es : List Expr} {t : DTA} {Ci : CtrI} {dd : List D}
end

/-! ### isinstance -/
@[simp] def kindD : D → String
  | .non => "NoneType"
  | .bl _ => "bool"
  | .int _ => "int"
  | .str _ => "str"
  | .tup _ => "tuple"
  | .lst _ => "list"
  | .bag => "list"
  | .obj _ _ => ""
  | .cls _ => ""
  | .lat _ _ => ""
  | .scr _ => ""
  | .exn _ _ _ _ => ""
  | .adr _ => ""
  | .dcK _ _ => ""
  | .dcT _ _ => ""
def isKind : D → Bool
  | .obj _ _ => false
  | .cls _ => false
  | .lat _ _ => false
  | .scr _ => false
  | .exn _ _ _ _ => false
  | .adr _ => false
  | .dcK _ _ => false
  | .dcT _ _ => false
  | _ => true
theorem Rep.ty {K : PySem.W.Frag} {T : Tab} {B : Option Addr} {L : LX} {M : Addr → Prop} {H : Hp} (hb : BagOk T B L H) : ∀ (d : D) (v : V), isKind d = true → Rep K T B M H d v → TyX K H v (.type (kindD d))
  | .non, _, _, h => by rw [show _ = V.non from h]; exact .base .non
  | .bl b, _, _, h => by rw [show _ = V.bl b from h]; exact .base (.bl b)
  | .int i, _, _, h => by rw [show _ = V.int i from h]; exact .base (.int i)
  | .str x, _, _, h => by rw [show _ = V.str x from h]; exact .base (.str x)
  | .tup ds, _, _, ⟨a, vs, e, s, r⟩ => by
    rw [e]
    rcases s with (s | ⟨o, s⟩) | ⟨o, its, n, s1, s2, _⟩
    · exact .base (.tup s)
    · exact .fTuple s
    · exact .kTuple s1 s2
  | .lst ds, _, _, ⟨a, vs, e, s, m, r⟩ => by rw [e]; exact .base (.lst s)
  | .obj c ds, _, p, _ => by cases p
  | .bag, _, _, ⟨b, hB, e⟩ => by
    rw [e]
    obtain ⟨_, ns, i, x, m, c, h1, _⟩ := hb.bg b hB
    exact .base (.lst h1)
  | .cls _, _, p, _ => by cases p
  | .lat _ _, _, p, _ => by cases p
  | .scr _, _, p, _ => by cases p
  | .exn _ _ _ _, _, p, _ => by cases p
  | .adr _, _, p, _ => by cases p
  | .dcK _ _, _, p, _ => by cases p
  | .dcT _ _, _, p, _ => by cases p
/-- built-in classes that the law and the program ask for -/
inductive BT where
  | tup | lst | bool | int | str
@[simp] def BT.n : BT → String
  | .tup => "tuple"
  | .lst => "list"
  | .bool => "bool"
  | .int => "int"
  | .str => "str"
@[simp] def isA : BT → D → Bool
  | .tup, .tup _ => true
  | .lst, .lst _ => true
  | .lst, .bag => true
  | .bool, .bl _ => true
  | .int, .int _ => true
  | .int, .bl _ => true
  | .str, .str _ => true
  | _, _ => false
theorem kit_isA {d : D} (n : BT) (h : isKind d = true) : kitB (kindD d) n.n = some (isA n d) := by
  cases n <;> cases d <;> first | (cases h; done) | (simp only [kindD, BT.n, isA]; decide +kernel)
/-- isinstance(x, T) -/
@[simp] def dIsI (n : BT) (ta : DTE) : DTE := fun τ Q => ta τ fun s => isKind s.d = true ∧ Q (.v 2 (.bl (isA n s.d)))
/-- isinstance(x, (T, U)) -/
@[simp] def dIsI2 (n m : BT) (ta : DTE) : DTE := fun τ Q => ta τ fun s => isKind s.d = true ∧ Q (.v 2 (.bl (isA n s.d || isA m s.d)))
/-- isinstance(x, C), C of the program's own, x of built-in kinds or an instance of C -/
@[simp] def isObj (c : Nat) : D → Bool
  | .obj c' _ => c' == c
  | _ => false
section
variable {X : Cx} {T : Tab} {e : Expr} {te : DTE} {n m x y : Str} {b b' : BT} {p p1 p2 p3 pos : Pos} {k1 : Nat}
theorem de_isI (n : BT) (hg : Gl X "isinstance") (hm : X.mg "isinstance" = none) (hgt : Gl X y) (hmt : X.mg y = none) (hv : bootBuiltins y = some (.type n.n)) (he : PE X e (UpE X.K T te)) (hy : y ≠ "__name__" := by decide) (hdy : (y == ("__debug__" : Str)) = false := by decide)
    (hs : starEach [e, .Name y p1] X.env = (false, eval e X.env) :: starEach [.Name y p1] X.env := by rfl) (hpl : (backTo pos (starEach [.Name y p1] X.env)).any (·.1) = false := by rfl)
    (ha : PA X [e, .Name y p1] (tCons (UpE X.K T te) (tCons (tC (.ty n.n)) tNil)) := by exact pa_cons (by assumption) (pa_cons (pe_bltn (by assumption) (by assumption) (by assumption) rfl (by assumption) (by assumption)) pa_nil)) :
    PE X (.Call (.Name "isinstance" p) [e, .Name y p1] [] pos) (UpE X.K T (dIsI n te)) :=
  (pe_callB call_isi hg hm (by decide +kernel) ha (by decide) (by decide) hs hpl).of fun σ H Q ⟨S, τ, QD, sr, h, k⟩ => ⟨S, τ, _, sr, h, fun H1 v sl a r ⟨q1, q⟩ =>
    ⟨v, .ty n.n, _, _, isA n sl.d, rfl, .ty _, Rep.ty a.bag sl.d v q1 (r.g sr), kit_ty (kit_isA n q1), k H1 _ (.v 2 (.bl _)) a rfl q⟩⟩
theorem de_isI2 (n m : BT) {z : Str} (hg : Gl X "isinstance") (hm : X.mg "isinstance" = none) (hgt : Gl X y) (hmt : X.mg y = none) (hv : bootBuiltins y = some (.type n.n)) (hgz : Gl X z) (hmz : X.mg z = none) (hvz : bootBuiltins z = some (.type m.n)) (he : PE X e (UpE X.K T te))
    (hy : y ≠ "__name__" := by decide) (hdy : (y == ("__debug__" : Str)) = false := by decide) (hz : z ≠ "__name__" := by decide) (hdz : (z == ("__debug__" : Str)) = false := by decide)
    (hs : starEach [e, .Tuple [.Name y p1, .Name z p2] k1 p3] X.env = (false, eval e X.env) :: starEach [.Tuple [.Name y p1, .Name z p2] k1 p3] X.env := by rfl) (hpl : (backTo pos (starEach [.Tuple [.Name y p1, .Name z p2] k1 p3] X.env)).any (·.1) = false := by rfl)
    (ha : PA X [e, .Tuple [.Name y p1, .Name z p2] k1 p3] (tCons (UpE X.K T te) (tCons (tTup (tCons (tC (.ty n.n)) (tCons (tC (.ty m.n)) tNil))) tNil)) := by
      exact pa_cons (by assumption) (pa_cons (pe_tup (pa_cons (pe_bltn (by assumption) (by assumption) (by assumption) rfl (by assumption) (by assumption)) (pa_cons (pe_bltn (by assumption) (by assumption) (by assumption) rfl (by assumption) (by assumption)) pa_nil))) pa_nil)) :
    PE X (.Call (.Name "isinstance" p) [e, .Tuple [.Name y p1, .Name z p2] k1 p3] [] pos) (UpE X.K T (dIsI2 n m te)) :=
  (pe_callB call_isiT hg hm (by decide +kernel) ha (by decide) (by decide) hs hpl).of fun σ H Q ⟨S, τ, QD, sr, h, k⟩ => ⟨S, τ, _, sr, h, fun H1 v sl a r ⟨q1, q⟩ =>
    ⟨Nat.le_trans (show 2 ≤ 1000 by decide) (by rw [sizeLine_eq]; decide), fun p hp => by
      have s1 := sr.aft a
      have a2 := s1.laid (o := .tup [.ty n.n, .ty m.n]) hp
      refine ⟨v, p, _, _, [.type n.n, .type m.n], isA n sl.d || isA m sl.d, rfl, upd_same, .cons (.ty _) (.cons (.ty _) .nil), Rep.ty a2.bag sl.d v q1 (s1.rep a2.kp (r.g sr)), ?_, k _ _ (.v 2 (.bl _)) (a.trans a2) rfl q⟩
      refine kitAny_cons (kit_ty (kit_isA n q1)) (fun z => ?_) fun z => by rw [z]; rfl
      refine kitAny_cons (kit_ty (kit_isA m q1)) (fun z2 => ?_) fun z2 => by rw [z, z2]; rfl
      rw [z, z2]
      rfl⟩⟩
end
/-- a def with a promise that nobody can ask for -/
theorem fn_false {P : Program} {w : World} {K : PySem.W.Frag} {T : Tab} {mg : Str → Option Value} {base : Heap} {x qual : Str} {params : Arguments} {body : List Stmt} {scope : Scope} {dvs : List V} {kws : List (Str × V)} {f : Addr} {fd : FuncData} {N ps : List Str} {k : Nat}
    (F : FunD K x qual params body scope dvs kws f fd) (S : FnScope N ps scope) : FnOk P w K mg base CX0 (k + 1) f fd ps (spC K T fun _ _ => False) :=
  F.ok S (fun vs H Q E ⟨_, _, _, _, _, _, _, _, z, _⟩ => z.elim) (fun cdv A outer s H vs Q E hr ⟨_, _, _, _, _, _, _, _, z, _⟩ => z.elim)
end DL
/-! DL16: the law's drawing list: the frame that draws. -/
namespace DL
open PySem PySem.Spec PyProof.Rows L2
section
variable {K : PySem.W.Frag} {T : Tab} {S : Sit} {τ : DSt} {σ : L2.St} {H H' : Hp}
/-- a place of the drawing list is set, in the frame that draws -/
theorem SR.putB {ds es : List D} {x : Addr} {us : List V} (sr : SR K T S τ σ H) (e : τ[0]? = some (.ins 999 ds)) (eσ : σ[0]? = some (some (.ref x))) (r : RepsG K T S 2 H es us) :
    SR K T S (τ.set 0 (.ins 999 es)) σ (upd H x (.lst us)) ∧ Kp S.P H (upd H x (.lst us)) := by
  obtain ⟨_, x', dx', vs', e1, e2, e3, rs⟩ := sr.ins 0 999 ds e
  rw [eσ] at e1
  have ez : x = x' := V.ref.inj (Option.some.inj (Option.some.inj e1))
  subst ez
  rw [insO_bag] at e2
  have hX := sr.xp x e3
  have k : Kp S.P H (upd H x (.lst us)) := Kp.write hX.1 e2
  have sub : ∀ g, 1 ≤ g → ∀ a, S.P a → gset S g a := fun g hg a z => match g, hg with
    | 1, _ => z
    | _ + 2, _ => .inl z
  refine ⟨⟨by rw [List.length_set]; exact sr.len, sr.bp, fun a h => k.s a (sr.al a h), sr.ml, ⟨fun a o h n tt => ?_, fun a xs h => k.t a xs (sr.kp.t a xs h), fun a o w h => k.z a o w (sr.kp.z a o w h), fun a h => k.s a (sr.kp.s a h)⟩, sr.xp, sr.fr, sr.bl, ?_, sr.lp, fun j g d' q => ?_, fun j fs q => ?_, fun j c' fs q => ?_, fun y hy => ⟨(sr.gh y hy).1, Rep.kp k (sub y.1 (sr.gh y hy).1) _ _ (sr.gh y hy).2⟩, fun j l fs gs q q1 q2 q3 q4 => ?_, fun j y q => ?_, fun j l x y q1 q2 => sr.su j l x y (set_sto (fun _ z => by cases z) q1) (set_sto (fun _ z => by cases z) q2)⟩, k⟩
  · rw [upd_ne fun z => n (.inr (by rw [z]; exact e3))]
    exact sr.kp.k0 a o h n tt
  · refine sr.bag.kp (N := fun a => a = x) (Kp.write rfl e2) (Tk.write e2 (fun _ z => by cases z) fun _ z => by cases z) fun b hb => ⟨fun z => hX.2 (z ▸ hb), fun z => ?_⟩
    have z : S.L.a = x := z
    exact sr.lp b hb (by rw [z]; exact hX.1)
  · by_cases hj' : 0 = j
    · subst hj'
      cases (set_at q).2
    · rw [List.getElem?_set_ne hj'] at q
      obtain ⟨hg, v, q1, h⟩ := sr.val j g d' q
      exact ⟨hg, v, q1, Rep.kp k (sub g hg) d' v h⟩
  · by_cases hj' : 0 = j
    · subst hj'
      cases (set_at q).2
    · rw [List.getElem?_set_ne hj'] at q
      obtain ⟨p2, ws, q1, q2, q3, q4, q5, h⟩ := sr.own j fs q
      exact ⟨p2, ws, q1, by rw [upd_ne fun z => q5 (by rw [z]; exact e3)]; exact q2, q3, q4, q5, Reps.kp k (sub 2 (by decide)) fs ws h⟩
  · by_cases hj' : 0 = j
    · subst hj'
      cases (set_at q).2
      exact ⟨rfl, x, dx', us, eσ, by rw [upd_same, insO_bag], e3, Reps.kp k (sub 2 (by decide)) _ _ r⟩
    · rw [List.getElem?_set_ne hj'] at q
      exact absurd (sr.ins j c' fs q).1.symm hj'
  · have old : ∀ (j : Nat) (fs : List D), (τ.set 0 (.ins 999 es))[j]? = some (.own fs) → τ[j]? = some (.own fs) := fun j fs q => by
      by_cases hj : 0 = j
      · subst hj
        cases (set_at q).2
      · rw [List.getElem?_set_ne hj] at q; exact q
    exact sr.inj j l fs gs q (old j fs q1) (old l gs q2) q3 q4
  · have so := sr.st j y (set_sto (fun _ z => by cases z) q)
    exact (so.sit (S' := S) rfl (fun _ _ _ z => z) fun b o m z => z.to (upd_ne fun w => so.ins b o m 0 999 ds e (by rw [w]; exact eσ)) (fun es vs h => Reps.kp k (sub 2 (by decide)) es vs h) fun b xs => sqT_kp k).setT fun _ b o m w => so.ins b o m 0 999 ds e w
end
/-- bag[j], read in the frame that draws -/
@[simp] def dBg (j : Nat) : DTE := fun τ Q => match τ[(0 : Nat)]? with
  | some (.ins 999 ds) => match ds[j]? with
    | some (.lat _ es) => Q (.v 2 (.lst es))
    | some d => Q (.v 2 d)
    | none => False
  | _ => False
/-- bag[j] = .. -/
@[simp] def gBg (j : Nat) : DTG := fun g d τ Q => match τ[(0 : Nat)]? with
  | some (.ins 999 ds) => (Nat.ble 2 g || d.imm) = true ∧ j < ds.length ∧ Q (τ.set 0 (.ins 999 (ds.set j d)))
  | _ => False
section
variable {X : Cx} {T : Tab} {x : Str} {i : Int} {j k1 : Nat} {p p1 p2 pos : Pos}
theorem ixN_nat {n j : Nat} (h : j < n) : ixN n (j : Int) = some j := by
  unfold ixN
  rw [if_pos (by omega), if_pos (by omega)]
  rfl
theorem de_bg (hi : i = (j : Int)) (hN : X.N[0]? = some x) (hv : Vis X.env.scope x) (hd : (x == ("__debug__" : Str)) = false := by decide) (hcd : (x == ("__classdict__" : Str)) = false := by decide)
    (hs : PlainIx (.Constant (.int i) k1 p1) := by exact fun _ _ => rfl) : PE X (.Subscript (.Name x p) (.Constant (.int i) k1 p1) pos) (UpE X.K T (dBg j)) :=
  (pe_ix ix_list (pe_var hN hv hd hcd) pe_int hs).of fun σ H Q ⟨S, τ, QD, sr, h, k⟩ => by
    subst hi
    unfold dBg at h
    split at h
    · rename_i ds e0
      obtain ⟨_, y, dx, vs, e1, e2, e3, rs⟩ := sr.ins 0 999 ds e0
      rw [insO_bag] at e2
      split at h
      · rename_i a es ed
        obtain ⟨v, h1, ws, rfl, h2, h3, h4⟩ := rs.get ed
        exact ⟨.ref y, e1, y, vs, j, .ref a, rfl, rfl, SqL.of e2, (atI_k _ _).trans h1, k H (.ref a) (.v 2 (.lst es)) sr.same ⟨a, ws, rfl, h2, h3, h4⟩ h⟩
      · rename_i d _ ed
        obtain ⟨v, h1, h2⟩ := rs.get ed
        exact ⟨.ref y, e1, y, vs, j, v, rfl, rfl, SqL.of e2, (atI_k _ _).trans h1, k H v (.v 2 d) sr.same h2 h⟩
      · exact h.elim
    · exact h.elim
theorem dg_bg (hi : i = (j : Int)) (hN : X.N[0]? = some x) (hv : Vis X.env.scope x) (hd : (x == ("__debug__" : Str)) = false := by decide) (hcd : (x == ("__classdict__" : Str)) = false := by decide)
    (ha : ∀ v, assign (.Subscript (.Name x p1) (.Constant (.int i) k1 p2) pos) X.env v = (do
      let ov ← holding [v] (eval (.Name x p1) X.env)
      let iv ← holding [v, ov] (eval (.Constant (.int i) k1 p2) X.env)
      standAt pos
      holding [v, ov, iv] (setItem ov iv v)
      release [v, ov, iv] []) := by intro _; rfl) : PG X (.Subscript (.Name x p1) (.Constant (.int i) k1 p2) pos) (UpG X.K T (gBg j)) :=
  ⟨fun pins s σ H v u Q I r ⟨S, τ, g, d, QD, sr, rp, hw, k⟩ => (pg_sub (pe_var hN hv hd hcd) pe_int set_list ha).run pins s σ H v u Q I r (by
    subst hi
    unfold gBg at hw
    split at hw
    · rename_i ds e0
      obtain ⟨q1, q2, q3⟩ := hw
      obtain ⟨_, y, dx, vs, e1, e2, e3, rs⟩ := sr.ins 0 999 ds e0
      rw [insO_bag] at e2
      have rd : RepG X.K T S 2 H d v := by
        rcases Bool.or_eq_true_iff.mp q1 with z | z
        · match g, z, rp with
          | g + 2, _, rp => exact rp
        · exact Rep.imm d v z rp
      obtain ⟨s3, k3⟩ := sr.putB e0 e1 (rs.set j rd)
      exact ⟨.ref y, e1, y, vs, j, j, rfl, rfl, e2, ixN_nat (by rw [rs.len]; exact q2), k _ _ _ s3 k3 q3⟩
    · exact hw.elim)⟩
end
/-! ### the frame that draws -/
abbrev bagD (L : Addr) (ns : List Int) (i x m c : Int) : List D := [.lat L (ns.map D.int), .int i, .int x, .int m, .int c]
def bagGood (L : Addr) (τ : DSt) : Prop := ∃ (ns : List Int) (i x m c : Int), τ[(0 : Nat)]? = some (.ins 999 (bagD L ns i x m c)) ∧ 0 ≤ i ∧ 0 ≤ x ∧ 0 ≤ m ∧ m < 2147483563 ∧ 0 ≤ c
theorem ints_reps {K : PySem.W.Frag} {T : Tab} {B : Option Addr} {M : Addr → Prop} {H : Hp} : ∀ {ns : List Int} {vs : List V}, Reps K T B M H (ns.map D.int) vs → vs = ns.map V.int
  | [], _, h => h
  | n :: ns, _, ⟨v, r, e, h1, h2⟩ => by rw [e, show v = V.int n from h1, ints_reps h2]; rfl
/-- what drawing promises -/
def C_pull : Ctr := fun ds Q => match ds with
  | [.bag, .int n] => 0 < n ∧ n < 10000000000000000000000000000000000000000 ∧ ∀ k : Int, 0 ≤ k → k < n → Q (.v 2 (.int k))
  | _ => False
section
variable {P : Program} {w : World} {K : PySem.W.Frag} {T : Tab} {mg : Str → Option Value} {base : Heap} {x qual : Str} {params : Arguments} {body : List Stmt} {scope : Scope} {dvs : List V} {kws : List (Str × V)} {f : Addr} {fd : FuncData} {N ps : List Str} {k : Nat}
@[simp] def startP (N : List Str) (L : Addr) (ns : List Int) (i x m c n : Int) : DSt := Sl.ins 999 (bagD L ns i x m c) :: Sl.v 2 (.int n) :: List.replicate (N.length - 2) .un
theorem pull_ok (F : FunD K x qual params body scope dvs kws f fd) (S : FnScope N ps scope) (t : DTS) (hps : ps.length = 2)
    (hb : ∀ (cdv : Value) (A : Around) (outer : List Env) (s : Shared) (H : Hp) (E : XK), Room k (A.deeper (envOfC qual scope s.heap.objs.size f cdv)) → PSs (cxOf CX0 P w K mg base N qual scope f cdv A outer s H E).nox body (UpS K T ⟨mg, E⟩ t))
    (hp : ∀ (L : Addr) (ns : List Int) (i x m c n : Int), 0 ≤ i → 0 ≤ x → 0 ≤ m → m < 2147483563 → 0 ≤ c → 0 < n → n < 10000000000000000000000000000000000000000 → t { nx := fun _ => False, rt := fun _ => False, rb := fun τ d => bagGood L τ ∧ ∃ k : Int, d = .int k ∧ 0 ≤ k ∧ k < n } (startP N L ns i x m c n)) :
    FnOk P w K mg base CX0 (k + 1) f fd ps (spC K T C_pull) := by
  refine F.ok S (fun vs H Q E h => ?_) (fun cdv A outer s H vs Q E hr h => ⟨UpS K T ⟨mg, E⟩ t, (hb cdv A outer s H E hr).nox, ?_⟩)
  · obtain ⟨B, L, M, ds, QD, _, _, r, q, _⟩ := h
    rw [r.len, hps]
    match ds, q with
    | [.bag, .int n], _ => rfl
  · obtain ⟨B, L, M, ds, QD, bag, hm, r, q, kk⟩ := h
    match ds, q, r with
    | [.bag, .int n], ⟨q1, q2, q3⟩, ⟨_, _, e9, ⟨b, hB, e8⟩, _, _, e7, e6, e5⟩ =>
      subst hB
      rw [e5] at e7
      rw [show _ = V.int n from e6] at e7
      rw [e8, e7] at e9
      subst e9
      obtain ⟨nbl, ns, i, x, m, c, h1, h2, g1, g2, g3, g4, g5⟩ := bag.bg b rfl
      let H0 : Hp := fun a => if a = b then none else H a
      have h0 : ∀ a, a ≠ b → H0 a = H a := fun a z => if_neg z
      have h0b : H0 b = none := if_pos rfl
      have kp0 : ∀ {N : Addr → Prop}, Kp N H0 H := by
        intro N
        have st : ∀ a u, H0 a = some u → H a = some u := fun a u e => by
          by_cases z : a = b
          · rw [z, h0b] at e; cases e
          · rw [← h0 a z]; exact e
        refine ⟨fun a o e _ _ => st a o e, fun a xs e => st a _ e, fun a o u e => st a _ e, fun a e => ?_⟩
        · obtain ⟨o, e, t⟩ := e.ex
          exact Lv.of (st a o e) t
      have SR0 : SR K T ⟨none, L, (fun a => a = b), H0, fun _ => False, fun a => a = b, []⟩ (startP N L.a ns i x m c n) (start N [.ref b, .int n]) H := by
        have at_ : ∀ {i' : Nat} {s : Sl}, (startP N L.a ns i x m c n)[i']? = some s → (i' = 0 ∧ s = .ins 999 (bagD L.a ns i x m c)) ∨ (i' = 1 ∧ s = .v 2 (.int n)) ∨ s = .un := fun {i' s} e => by
          match i' with
          | 0 => cases e; exact .inl ⟨rfl, rfl⟩
          | 1 => cases e; exact .inr (.inl ⟨rfl, rfl⟩)
          | i' + 2 =>
            have e : (List.replicate (N.length - 2) Sl.un)[i']? = some s := e
            obtain ⟨_, e⟩ := List.getElem?_eq_some_iff.mp e
            rw [List.getElem_replicate] at e
            exact .inr (.inr e.symm)
        refine ⟨?_, fun a z => (by cases z), fun a z => ?_, fun a z => z.elim, kp0, fun a z => ?_, fun a z q q' => ?_, fun a z => (by cases z), ⟨fun b e => (by cases e), bag.tb⟩, fun b e => (by cases e), fun j g d e => ?_, fun j es e => ?_, fun j c' es e => ?_, fun y hy => (by cases hy), fun j l es fs p e => ?_, fun j g e => ?_, fun i j g g' e => ?_⟩
        · unfold startP L2.start
          simp only [List.map_cons, List.map_nil, List.cons_append, List.nil_append, List.length_cons, List.length_replicate, List.length_nil]
        · have z : a = b := z
          rw [z]; exact Lv.of h1
        · cases z
          exact ⟨rfl, fun z => by cases z⟩
        · exact absurd (by rw [show a = b from z]) q'
        · rcases at_ e with ⟨_, e2⟩ | ⟨e1, e2⟩ | e2
          · cases e2
          · cases e2
            subst e1
            exact ⟨by decide, .int n, rfl, rfl⟩
          · cases e2
        · rcases at_ e with ⟨_, e2⟩ | ⟨e1, e2⟩ | e2 <;> cases e2
        · rcases at_ e with ⟨e1, e2⟩ | ⟨e1, e2⟩ | e2
          · cases e2
            subst e1
            refine ⟨rfl, b, 0, _, rfl, by rw [insO_bag]; exact h1, rfl, ?_⟩
            refine ⟨.ref L.a, _, rfl, ⟨ns.map V.int, rfl, h2, fun z => ?_, reps_ints⟩, _, _, rfl, rfl, _, _, rfl, rfl, _, _, rfl, rfl, _, _, rfl, rfl, rfl⟩
            exact Or.elim z (fun z => nbl (show L.a = b from z).symm) fun z => z
          · cases e2
          · cases e2
        · rcases at_ e with ⟨_, e2⟩ | ⟨e1, e2⟩ | e2 <;> cases e2
        · rcases at_ e with ⟨_, e2⟩ | ⟨e1, e2⟩ | e2 <;> cases e2
        · rcases at_ e with ⟨_, e2⟩ | ⟨e1, e2⟩ | e2 <;> cases e2
      refine ⟨_, _, _, SR0, hp L.a ns i x m c n g1 g2 g3 g4 g5 q1 q2, ⟨fun _ _ _ _ _ z => z.elim, fun _ _ _ _ _ z => z.elim, fun _ _ _ _ _ z => z.elim, fun _ _ _ _ _ _ z => z.elim, ?_, fun _ _ _ _ _ _ _ z => z.elim, fun _ _ _ _ _ _ _ _ z => z.elim, fun _ _ _ _ _ _ _ _ _ z => z.elim⟩⟩
      rintro P' τ' σ' H' d v sr' hsc ⟨⟨ns', i', x', m', c', e0, k1, k2, k3, k4, k5⟩, k, rfl, k6, k7⟩
      obtain rfl : v = .int k := hsc
      obtain ⟨_, y, dx, vs, e1, e2, e3, rs⟩ := sr'.ins 0 999 _ e0
      cases e3
      rw [insO_bag] at e2
      obtain ⟨v1, r1, rfl, f1, v2, r2, rfl, f2, v3, r3, rfl, f3, v4, r4, rfl, f4, v5, r5, rfl, f5, rfl⟩ := rs
      obtain ⟨ws, rfl, l1, l2, l3⟩ := f1
      obtain rfl : v2 = .int i' := f2
      obtain rfl : v3 = .int x' := f3
      obtain rfl : v4 = .int m' := f4
      obtain rfl : v5 = .int c' := f5
      obtain rfl := ints_reps l3
      refine kk H' (.int k) (.v 2 (.int k)) ⟨fun a o e n t => sr'.kp.k0 a o ((h0 a fun z => n (by rw [z])).trans e) (fun z => Or.elim z (fun z => by cases z) fun z => n (by rw [show a = b from z])) t, fun a xs e => sr'.kp.t a xs ?_, fun a o u e => sr'.kp.z a o u ?_, fun a e => ?_⟩ ⟨fun b' e => ?_, sr'.bag.tb⟩ rfl (q3 k k6 k7)
      · exact (h0 a fun z => by rw [z, h1] at e; cases e).trans e
      · exact (h0 a fun z => by rw [z, h1] at e; cases e).trans e
      · by_cases z : a = b
        · rw [z]; exact Lv.of e2
        · obtain ⟨o, e, t⟩ := e.ex
          exact sr'.kp.s a (Lv.of ((h0 a z).trans e) t)
      · cases e
        exact ⟨nbl, ns', i', x', m', c', e2, l1, k1, k2, k3, k4, k5⟩
end
/-! ### the drawing list is made -/
def C_bag : Ctr := fun ds Q => match ds with
  | [.scr _] => ∀ (ns : List Int) (m : Int), 0 ≤ m → m < 2147483563 → Q (.own (.lst (ns.map D.int) :: [.int 0, .int 0, .int m, .int 0]))
  | _ => False
/-- an element of a list, drawn -/
def C_of : Ctr := fun ds Q => match ds with
  | [.bag, .lst es] => immAll es = true ∧ 0 < es.length ∧ es.length < 1073741824 ∧ ∀ d ∈ es, Q (.v 2 d)
  | _ => False
/-! ### a law -/
/-! ### defs whose frames know their code object -/
theorem funD_okC {P : Program} {w : World} {K : PySem.W.Frag} {mg : Str → Option Value} {base : Heap} {x qual : Str} {params : Arguments} {body : List Stmt} {scope : Scope} {dvs : List V} {kws : List (Str × V)} {f : Addr} {fd : FuncData} {CX : CXT} {N ps : List Str} {k : Nat} {sp : Sp} (F : FunD K x qual params body scope dvs kws f fd) (S : FnScope N ps scope) (len : ∀ vs H Q E, sp vs H Q E → vs.length = ps.length)
    (hbody : ∀ (cdv : Value) (A : Around) (outer : List Env) (s : Shared) (H : Hp) (vs : List V) (Q : VK) (E : XK), fd.code = cdv → Room k (A.deeper (envOfC qual scope s.heap.objs.size f cdv)) → sp vs H Q E →
      ∃ t, PSs (cxOf CX P w K mg base N qual scope f cdv A outer s H E) body t ∧ t { nx := fun _ H' => Q .non H', rt := Q } (L2.start N vs) H) : FnOk P w K mg base CX (k + 1) f fd ps sp := by
  obtain ⟨oc, od, dV, kV, doc, pm, an, cdv, ct, osl, rfl, lk, hcd, _, _⟩ := F.ex
  exact fn_of lk hcd S len fun A outer s H vs Q E hr hsp => hbody cdv A outer s H vs Q E rfl hr hsp
def bagOut (sl : Sl) : Prop := ∃ (ns : List Int) (m : Int), sl = .own (.lst (ns.map D.int) :: [.int 0, .int 0, .int m, .int 0]) ∧ 0 ≤ m ∧ m < 2147483563
def spLaw (K : PySem.W.Frag) (T : Tab) : Sp := fun vs H Q _ => ∃ (a : Addr) (ns : List Int), vs = [.ref a] ∧ SqL K H a (ns.map V.int) ∧ LamX.Tabs (tabsT T) H ∧ ∀ H', Q (.bl true) H'
section
variable {P : Program} {w : World} {K : PySem.W.Frag} {T : Tab} {mg : Str → Option Value} {base : Heap} {x qual y : Str} {params : Arguments} {body rest : List Stmt} {scope : Scope} {dvs : List V} {kws : List (Str × V)} {f : Addr} {fd : FuncData} {N : List Str} {k i : Nat} {call : Expr} {p1 p2 : Pos} {sn : Str}
/-- the slots behind the first statement of a law: its drawing list in the second -/
@[simp] def startL (N : List Str) : DSt := .un :: .v 2 .bag :: List.replicate (N.length - 2) .un
theorem law_ok (F : FunD K x qual params body scope dvs kws f fd) (S : FnScope N [sn] scope) (t : DTS) (hbody : body = .Assign [.Name y p1] call p2 :: rest) (hN : N[1]? = some y) (hlen : 2 ≤ N.length)
    (hb : ∀ (cdv : Value) (A : Around) (outer : List Env) (s : Shared) (H : Hp) (E : XK), fd.code = cdv → Room k (A.deeper (envOfC qual scope s.heap.objs.size f cdv)) →
      ∃ TS1 : TS, PS (cxOf CX0 P w K mg base N qual scope f cdv A outer s H E).nox (.Assign [.Name y p1] call p2) TS1 ∧ (∀ D σ H', UpE K T (dCall C_bag [] (aCons (dVar 0) aNil)) σ H' (fun v H1 => D.nx (σ.set 1 (some v)) H1) → TS1 D σ H') ∧
      PSs (cxOf CX0 P w K mg base N qual scope f cdv A outer s H E).nox rest (UpS K T ⟨mg, E⟩ t))
    (hp : t { nx := fun _ => False, rt := fun sl => ∃ g, sl = .v g (.bl true) } (startL N)) : FnOk P w K mg base CX0 (k + 1) f fd [sn] (spLaw K T) := by
  refine funD_okC F S (fun vs H Q E h => ?_) (fun cdv A outer s H vs Q E hcd hr h => ?_)
  · obtain ⟨a, ns, rfl, _⟩ := h
    rfl
  · obtain ⟨a, ns, rfl, hS, hTT, hQ⟩ := h
    obtain ⟨TS1, w1, i1, w2⟩ := hb cdv A outer s H E hcd hr
    subst hbody
    refine ⟨_, PSs.nox (pss_cons w1 w2), i1 _ _ _ ?_⟩
    have r0 : Reps K T none (fun a => none = some a) H [.scr ns] [.ref a] := by
      refine Reps.one ⟨a, rfl, ?_⟩
      rcases hS with hS | hS
      · exact .inl ⟨hS, fun z => by cases z⟩
      · exact .inr hS
    refine ⟨⟨none, ⟨0⟩, fun _ => False, H, fun _ => False, fun a => none = some a, []⟩, startD N [.scr ns], bagOut, sr_start ⟨fun b e => (by cases e), hTT⟩ (fun a z => z.elim) r0, fun ns m h1 h2 => ⟨ns, m, rfl, h1, h2⟩, fun H1 v sl a1 r1 q1 => ?_⟩
    · obtain ⟨ns', m, rfl, h1, h2⟩ := q1
      · skip
        obtain ⟨p, vs, rfl, e1, e2, v1, r1', rfl, ⟨L, ws, rfl, l1, l2, l3⟩, _, _, rfl, f2, _, _, rfl, f3, _, _, rfl, f4, _, _, rfl, f5, rfl⟩ := r1
        cases f2
        cases f3
        cases f4
        cases f5
        obtain rfl := ints_reps l3
        have nL : L ≠ p := fun z => l2 (.inr z)
        refine ⟨⟨some p, ⟨L⟩, fun _ => False, H1, fun _ => False, fun a => a = p, []⟩, startL N, { nx := fun _ => False, rt := fun sl => ∃ g, sl = .v g (.bl true) }, ?_, hp, ⟨fun _ _ _ _ _ z => z.elim, fun _ _ _ _ _ z => z.elim, fun _ _ _ _ _ z => z.elim, fun H' v sl _ _ rr ⟨g, z⟩ => ?_, fun _ _ _ _ _ _ _ _ z => z.elim, fun _ _ _ _ _ _ _ z => z.elim, fun _ _ _ _ _ _ _ _ z => z.elim, fun _ _ _ _ _ _ _ _ _ z => z.elim⟩⟩
        · have at_ : ∀ {i' : Nat} {s : Sl}, (startL N)[i']? = some s → (i' = 1 ∧ s = .v 2 .bag) ∨ s = .un := fun {i' s} e => by
            match i' with
            | 0 => cases e; exact .inr rfl
            | 1 => cases e; exact .inl ⟨rfl, rfl⟩
            | i' + 2 =>
              have e : (List.replicate (N.length - 2) Sl.un)[i']? = some s := e
              obtain ⟨_, e⟩ := List.getElem?_eq_some_iff.mp e
              rw [List.getElem_replicate] at e
              exact .inr e.symm
          have hl : (start N [V.ref a]).length = N.length := by
            unfold L2.start
            rw [List.length_append, List.length_map, List.length_replicate, List.length_cons, List.length_nil]
            omega
          refine ⟨?_, fun a z => ?_, fun a z => ?_, fun a z => z.elim, Kp.refl, fun a z => (by cases z), fun a z q _ => ?_, fun a z => ?_, ⟨fun b e => ?_, a1.bag.tb⟩, fun b e z => ?_, fun j g d e => ?_, fun j es e => ?_, fun j c' es e => ?_, fun y hy => (by cases hy), fun j l es fs p e => ?_, fun j g e => ?_, fun i j g g' e => ?_⟩
          · rw [List.length_set, hl]
            unfold startL
            rw [List.length_cons, List.length_cons, List.length_replicate]
            omega
          · cases z
            rfl
          · rw [show a = p from z]; exact Lv.of e2
          · exact absurd (by rw [show a = p from z]) q
          · cases z
            exact Lv.of e2
          · cases e
            exact ⟨Ne.symm nL, ns', 0, 0, m, 0, e2, l1, by decide, by decide, h1, h2, by decide⟩
          · exact nL z
          · rcases at_ e with ⟨e1, e2⟩ | e2
            · cases e2
              subst e1
              exact ⟨by decide, .ref p, List.getElem?_set_self (by rw [hl]; omega), p, rfl, rfl⟩
            · cases e2
          · rcases at_ e with ⟨_, e2⟩ | e2 <;> cases e2
          · rcases at_ e with ⟨_, e2⟩ | e2 <;> cases e2
          · rcases at_ e with ⟨_, e2⟩ | e2 <;> cases e2
          · rcases at_ e with ⟨_, e2⟩ | e2 <;> cases e2
          · rcases at_ e with ⟨_, e2⟩ | e2 <;> cases e2
        · subst z
          rw [show v = V.bl true from rr]
          exact hQ H'
end
end DL
/-! DL17: what the plain part computes with. -/
namespace DL
open PySem PySem.Spec PyProof.Rows L2
mutual
@[simp] def lay : D → Bool
  | .non => true
  | .bl _ => true
  | .int _ => true
  | .str x => PyData.strOk x
  | .tup ds => lays ds
  | .lst ds => lays ds
  | .obj _ _ => false
  | .bag => false
  | .cls _ => false
  | .lat _ _ => false
  | .scr _ => false
  | .exn _ _ _ _ => false
  | .adr _ => false
  | .dcK _ _ => false
  | .dcT _ _ => false
@[simp] def lays : List D → Bool
  | [] => true
  | d :: ds => lay d && lays ds
end
mutual
@[simp] def dep : D → Nat
  | .tup ds => deps ds + 1
  | .lst ds => deps ds + 1
  | _ => 0
@[simp] def deps : List D → Nat
  | [] => 0
  | d :: ds => max (dep d) (deps ds)
end
mutual
theorem lay_eq : ∀ d : D, lay d = (d.plain && PyData.canLay0 d.py)
  | .non => rfl
  | .bl _ => rfl
  | .int _ => rfl
  | .str x => rfl
  | .tup ds => by show lays ds = (plains ds && PyData.canLayAll0 (pys ds)); exact lays_eq ds
  | .lst ds => by show lays ds = (plains ds && PyData.canLayAll0 (pys ds)); exact lays_eq ds
  | .obj _ _ => rfl
  | .bag => rfl
  | .cls _ => rfl
  | .lat _ _ => rfl
  | .scr _ => rfl
  | .exn _ _ _ _ => rfl
  | .adr _ => rfl
  | .dcK _ _ => rfl
  | .dcT _ _ => rfl
theorem lays_eq : ∀ ds : List D, lays ds = (plains ds && PyData.canLayAll0 (pys ds))
  | [] => rfl
  | d :: ds => by
    show (lay d && lays ds) = ((d.plain && plains ds) && (PyData.canLay0 d.py && PyData.canLayAll0 (pys ds)))
    rw [lay_eq d, lays_eq ds]
    cases d.plain <;> cases plains ds <;> cases PyData.canLay0 d.py <;> rfl
end
mutual
theorem dep_eq : ∀ d : D, d.py.depth = dep d
  | .non => rfl
  | .bl _ => rfl
  | .int _ => rfl
  | .str x => rfl
  | .tup ds => by show PyData.depthAll (pys ds) + 1 = deps ds + 1; rw [deps_eq ds]
  | .lst ds => by show PyData.depthAll (pys ds) + 1 = deps ds + 1; rw [deps_eq ds]
  | .obj _ _ => rfl
  | .bag => rfl
  | .cls _ => rfl
  | .lat _ _ => rfl
  | .scr _ => rfl
  | .exn _ _ _ _ => rfl
  | .adr _ => rfl
  | .dcK _ _ => rfl
  | .dcT _ _ => rfl
theorem deps_eq : ∀ ds : List D, PyData.depthAll (pys ds) = deps ds
  | [] => rfl
  | d :: ds => by
    show max (PyData.depth d.py) (PyData.depthAll (pys ds)) = max (dep d) (deps ds)
    rw [dep_eq d, deps_eq ds]
end
@[simp] theorem shp_eq (d : D) : shp d = (lay d && decide (dep d ≤ 64)) := by
  unfold shp SeqAt.shaped
  rw [lay_eq, dep_eq, Bool.and_assoc]
@[simp] theorem lays_app (xs ys : List D) : lays (xs ++ ys) = (lays xs && lays ys) := by
  induction xs with
  | nil => rfl
  | cons x xs ih => simp [ih, Bool.and_assoc]
@[simp] theorem deps_app (xs ys : List D) : deps (xs ++ ys) = max (deps xs) (deps ys) := by
  induction xs with
  | nil => simp
  | cons x xs ih => simp [ih, Nat.max_assoc]
@[simp] theorem ixN_last (n : Nat) : ixN (n + 1) (-1) = some n := by
  unfold ixN
  rw [if_neg (by decide), if_pos (by omega)]
  congr 1
  omega
@[simp] theorem ixN_0 (n : Nat) : ixN (n + 1) 0 = some 0 := by
  unfold ixN
  rw [if_pos (by decide), if_pos (by omega)]
  rfl
@[simp] theorem set_app_len {α : Type} (l : List α) (a b : α) : (l ++ [a]).set l.length b = l ++ [b] := by
  induction l with
  | nil => rfl
  | cons x l ih => simp [ih]
@[simp] theorem max_le_ (a b c : Nat) : (max a b ≤ c) = (a ≤ c ∧ b ≤ c) := propext Nat.max_le
@[simp] theorem immAll_app (xs ys : List D) : immAll (xs ++ ys) = (immAll xs && immAll ys) := by
  induction xs with
  | nil => rfl
  | cons x xs ih => simp [ih, Bool.and_assoc]
@[simp] def eqBs : List D → List D → Bool
  | [], [] => true
  | x :: xs, y :: ys => eqB x y && eqBs xs ys
  | _, _ => false
theorem eqvAll_eq : ∀ xs ys : List D, PyData.eqvAll (pys xs) (pys ys) = eqBs xs ys
  | [], [] => rfl
  | x :: xs, y :: ys => by show (PyData.eqv x.py y.py && PyData.eqvAll (pys xs) (pys ys)) = _; rw [eqvAll_eq xs ys]; rfl
  | [], _ :: _ => rfl
  | _ :: _, [] => rfl
@[simp] theorem eqB_tup (xs ys : List D) : eqB (.tup xs) (.tup ys) = eqBs xs ys := eqvAll_eq xs ys
@[simp] theorem eqB_lst (xs ys : List D) : eqB (.lst xs) (.lst ys) = eqBs xs ys := eqvAll_eq xs ys
@[simp] theorem eqB_int (i j : Int) : eqB (.int i) (.int j) = decide (i = j) := rfl
@[simp] theorem eqB_bl (i j : Bool) : eqB (.bl i) (.bl j) = (i == j) := rfl
@[simp] theorem eqB_str (i j : Str) : eqB (.str i) (.str j) = (i == j) := rfl
@[simp] theorem eqB_non : eqB .non .non = true := rfl
@[simp] theorem eqB_ni (j : Int) : eqB .non (.int j) = false := rfl
@[simp] theorem eqB_in (j : Int) : eqB (.int j) .non = false := rfl
@[simp] theorem eqB_ns (j : Str) : eqB .non (.str j) = false := rfl
@[simp] theorem eqB_sn (j : Str) : eqB (.str j) .non = false := rfl
@[simp] theorem eqB_nt (xs : List D) : eqB .non (.tup xs) = false := rfl
@[simp] theorem eqB_tn (xs : List D) : eqB (.tup xs) .non = false := rfl
@[simp] theorem eqB_nl (xs : List D) : eqB .non (.lst xs) = false := rfl
@[simp] theorem eqB_ln (xs : List D) : eqB (.lst xs) .non = false := rfl
@[simp] theorem eqB_nb (b : Bool) : eqB .non (.bl b) = false := rfl
@[simp] theorem eqB_bn (b : Bool) : eqB (.bl b) .non = false := rfl
@[simp] theorem eqB_is (i : Int) (x : Str) : eqB (.int i) (.str x) = false := rfl
@[simp] theorem eqB_si (i : Int) (x : Str) : eqB (.str x) (.int i) = false := rfl
@[simp] theorem eqB_it (i : Int) (x : List D) : eqB (.int i) (.tup x) = false := rfl
@[simp] theorem eqB_ti (i : Int) (x : List D) : eqB (.tup x) (.int i) = false := rfl
@[simp] theorem eqB_il (i : Int) (x : List D) : eqB (.int i) (.lst x) = false := rfl
@[simp] theorem eqB_li (i : Int) (x : List D) : eqB (.lst x) (.int i) = false := rfl
@[simp] theorem eqB_st (i : Str) (x : List D) : eqB (.str i) (.tup x) = false := rfl
@[simp] theorem eqB_ts (i : Str) (x : List D) : eqB (.tup x) (.str i) = false := rfl
@[simp] theorem eqB_sl (i : Str) (x : List D) : eqB (.str i) (.lst x) = false := rfl
@[simp] theorem eqB_ls (i : Str) (x : List D) : eqB (.lst x) (.str i) = false := rfl
@[simp] theorem eqB_tl (y x : List D) : eqB (.tup x) (.lst y) = false := rfl
@[simp] theorem eqB_lt (y x : List D) : eqB (.lst x) (.tup y) = false := rfl
@[simp] theorem eqBs_nr (xs : List D) : eqBs xs [] = xs.isEmpty := by cases xs <;> rfl
@[simp] theorem eqBs_nl' (xs : List D) : eqBs [] xs = xs.isEmpty := by cases xs <;> rfl
@[simp] theorem strOk_lit (s : String) : PyData.strOk (Str.ofString s) = true := by
  unfold PyData.strOk
  rw [Str.ofString_eq_toList]
  show Array.all _ _ = true
  rw [← Array.all_toList, List.all_eq_true]
  intro n hn
  simp at hn
  obtain ⟨c, _, rfl⟩ := hn
  have h1 := c.valid
  have h2 : c.toNat < 1114112 := by
    rcases h1 with h1 | ⟨_, h1⟩
    · exact Nat.lt_trans h1 (by decide)
    · exact h1
  exact decide_eq_true h2
theorem ofString_inj {s t : String} (h : Str.ofString s = Str.ofString t) : s = t := by
  rw [Str.ofString_eq_toList, Str.ofString_eq_toList] at h
  have h1 : s.toList.map Char.toNat = t.toList.map Char.toNat := by
    have := congrArg (fun z : Str => z.cps.toList) h
    simpa using this
  have h2 : s.toList = t.toList := by
    refine List.map_inj_right (fun a b e => ?_) |>.mp h1
    exact Char.ext (UInt32.toNat_inj.mp e)
  exact String.ext h2
@[simp] theorem lit_beq (s t : String) : (Str.ofString s == Str.ofString t) = (s == t) := by
  by_cases h : s = t
  · rw [h]; simp
  · have h2 : ¬ (Str.ofString s = Str.ofString t) := fun z => h (ofString_inj z)
    rw [beq_eq_false_iff_ne.mpr h, beq_eq_false_iff_ne.mpr h2]
@[simp] theorem lit_eq (s t : String) : (Str.ofString s = Str.ofString t) = (s = t) := propext ⟨ofString_inj, fun h => by rw [h]⟩
end DL
/-! DL18: classes as the printed derivations ask for them; properties. -/
namespace DL
open PySem PySem.Spec PyProof.Rows L2
structure ClD (K : PySem.W.Frag) (T : Tab) (c : Nat) (fs : List Str) : Prop where
  cl : Cls K (T c).1
  fs_ : (T c).2 = fs
  nd_ : fs.Nodup
  le : fs.length < 1000
  no : ∀ f ∈ fs, NoAttr K (T c).1 f
section
variable {K : PySem.W.Frag} {T : Tab} {c j : Nat} {fs : List Str} {f : Str}
theorem ClD.nd (h : ClD K T c fs) : (T c).2.Nodup := by rw [h.fs_]; exact h.nd_
theorem ClD.h9 (h : ClD K T c fs) : (T c).2.length < 1000 := by rw [h.fs_]; exact h.le
theorem ClD.at_ (h : ClD K T c fs) (e : fs[j]? = some f) : (T c).2[j]? = some f := by rw [h.fs_]; exact e
theorem ClD.na (h : ClD K T c fs) (e : fs[j]? = some f) : NoAttr K (T c).1 f := h.no f (List.mem_of_getElem? e)
end
/-- a class constant by a local that holds the class -/
@[simp] def dCcL (i c : Nat) (d : D) : DTE := fun τ Q => dVar i τ fun s => s.d = .cls c ∧ Q (.v 2 d)
/-- a property of the class c -/
structure Pr (P : Program) (w : World) (K : PySem.W.Frag) (T : Tab) (mg : Str → Option Value) (base : Heap) (c : Nat) (f : Str) (k : Nat) (C : Ctr) : Prop where
  ex : ∃ (p g : Addr) (fd : FuncData) (ps : List Str), Cls K (T c).1 ∧ PropOf K (T c).1 f p g ∧ Binds K fd ps [] ∧ FnOk P w K mg base CX0 k g fd ps (spC K T C)
@[simp] def dProp (c : Nat) (C : Ctr) (to : DTE) : DTE := fun τ Q => to τ fun o => match o.d with
  | .obj c' fs => c' = c ∧ C [.obj c fs] Q
  | _ => False
section
variable {X : Cx} {T : Tab} {c k : Nat} {f : Str} {C : Ctr} {o : Expr} {to : DTE} {pos : Pos}
end
/-! ### bundles made -/
section
variable {P : Program} {w : World} {K : PySem.W.Frag} {T : Tab} {mg : Str → Option Value} {base : Heap} {x m qual : Str} {params : Arguments} {body : List Stmt} {scope : Scope} {f : Addr} {fd : FuncData} {ps : List Str} {k c : Nat} {C : Ctr} {Ci : CtrI}
end
end DL
namespace DL
open PySem PySem.Spec PyProof.Rows L2
/-- max, min of three -/
@[simp] def fMax3 : DCB := fun _ ds Q => match ds with
  | [.int i, .int j, .int k] => Q (.v 2 (.int (max (max i j) k)))
  | _ => False
@[simp] def fMin3 : DCB := fun _ ds Q => match ds with
  | [.int i, .int j, .int k] => Q (.v 2 (.int (min (min i j) k)))
  | _ => False
section
variable {K : PySem.W.Frag} {T : Tab}
theorem Reps.three {B : Option Addr} {M : Addr → Prop} {H : Hp} {d e f : D} {vs : List V} (h : Reps K T B M H [d, e, f] vs) : ∃ v u x, vs = [v, u, x] ∧ Rep K T B M H d v ∧ Rep K T B M H e u ∧ Rep K T B M H f x := by
  obtain ⟨v, r, e1, h1, h⟩ := h
  obtain ⟨u, x, e2, h2, h3⟩ := h.two
  exact ⟨v, u, x, by rw [e1, e2], h1, h2, h3⟩
end
end DL
/-! DLH: a head by tests of what stands behind the start, and defs wherever they stand. -/
namespace DL
open PySem PySem.Spec PyProof.Rows L2
/-! ### data of the module -/
mutual
theorem datB_ok {K : PySem.W.Frag} (T : Tab) : ∀ (d : D) (u : Value), datB K d u = true → ∃ v, RelV v u ∧ KRep K T d v
  | .non, u, h => by
    cases u <;> first | exact ⟨.non, rfl, fun _ _ _ => rfl⟩ | cases h
  | .bl b, u, h => by
    cases u <;> first | (cases h; done) | skip
    rename_i c
    have e : b = c := eq_of_beq h
    exact ⟨.bl b, by rw [e]; rfl, fun _ _ _ => rfl⟩
  | .int i, u, h => by
    cases u <;> first | (cases h; done) | skip
    rename_i j t
    have e : i = j := of_decide_eq_true h
    exact ⟨.int i, ⟨t, by rw [e]⟩, fun _ _ _ => rfl⟩
  | .str x, u, h => by
    cases u <;> first | (cases h; done) | skip
    rename_i y t
    have e : x = y := of_decide_eq_true h
    exact ⟨.str x, ⟨t, by rw [e]⟩, fun _ _ _ => rfl⟩
  | .tup ds, u, h => by
    unfold datB at h
    split at h
    · rename_i a
      split at h
      · rename_i o e
        obtain ⟨h1, h2⟩ := Bool.and_eq_true_iff.mp h
        split at h2
        · rename_i its n e2
          obtain ⟨h3, h4⟩ := Bool.and_eq_true_iff.mp h2
          obtain ⟨vs, r1, r2⟩ := datBs_ok T ds its.toList h4
          refine ⟨.ref a, rfl, fun B M H => ⟨a, vs, rfl, .inr ⟨o, its, n, e, of_decide_eq_true h1, e2, ?_, r1⟩, r2 B M H⟩⟩
          exact Nat.le_trans (of_decide_eq_true h3) (by rw [sizeLine_eq]; decide)
        · cases h2
      · cases h
    · cases h
  | .lst _, _, h => by cases h
  | .obj _ _, _, h => by cases h
  | .bag, _, h => by cases h
  | .cls _, _, h => by cases h
  | .lat _ _, _, h => by cases h
  | .scr _, _, h => by cases h
  | .exn _ _ _ _, _, h => by cases h
  | .adr _, _, h => by cases h
  | .dcK _ _, _, h => by cases h
  | .dcT _ _, _, h => by cases h
theorem datBs_ok {K : PySem.W.Frag} (T : Tab) : ∀ (ds : List D) (us : List Value), datBs K ds us = true → ∃ vs, Vals vs us ∧ ∀ B M H, Reps K T B M H ds vs
  | [], us, h => by
    cases us with
    | nil => exact ⟨[], .nil, fun _ _ _ => rfl⟩
    | cons u us => cases h
  | d :: ds, us, h => by
    cases us with
    | nil => cases h
    | cons u us =>
      obtain ⟨h1, h2⟩ := Bool.and_eq_true_iff.mp (show (datB K d u && datBs K ds us) = true from h)
      obtain ⟨v, r1, k1⟩ := datB_ok T d u h1
      obtain ⟨vs, r2, k2⟩ := datBs_ok T ds us h2
      exact ⟨v :: vs, .cons r1 r2, fun B M H => ⟨v, vs, rfl, k1 B M H, k2 B M H⟩⟩
end
/-! ### single tests -/
section
variable {K : PySem.W.Frag} {T : Tab} {mg : Str → Option Value} {h : Heap} {x f m : Str} {d : D} {c : Nat}
theorem tCst_ok (X : K.In h) (G : h.Ns mainGlobals mg) (e : tCst x d K = true) : Cst K T mg x d := by
  unfold tCst at e
  split at e
  · rename_i u q
    obtain ⟨v, r, k⟩ := datB_ok T d u e
    exact ⟨v, u, PySem.W.mg_of X G q, r, k⟩
  · cases e
end
/-! ### the whole -/
section
variable {ts : List Tst} {fn : List He5.DefA} {K : PySem.W.Frag}
theorem Seen.t (c : Seen ts fn K) (i : Nat) {t : Tst} (h : ts[i]? = some t := by rfl) : t K = true := by
  have q := congrArg (fun z : He.AlD => z.1) c.e
  exact List.all_eq_true.mp (Bool.and_eq_true_iff.mp (show (ts.all (fun t => t K) && fn.all (fun d => d.ok K)) = true from q)).1 t (List.mem_of_getElem? h)
theorem Seen.d (c : Seen ts fn K) (i : Nat) {d : He5.DefA} (h : fn[i]? = some d := by rfl) : ∃ fd, FunD K d.name d.qual d.params d.body d.scope (d.dvs K) (d.kws K) (d.at_ K) fd := by
  have q := congrArg (fun z : He.AlD => z.1) c.e
  have q2 := (Bool.and_eq_true_iff.mp (show (ts.all (fun t => t K) && fn.all (fun d => d.ok K)) = true from q)).2
  have q3 : fn.map (fun d => He5.fnA K (d.at_ K)) = fn.map He5.DefA.val := congrArg (fun z : He.AlD => z.2) c.e
  have q4 : (fn.map fun d => He5.fnA K (d.at_ K))[i]? = (fn.map He5.DefA.val)[i]? := by rw [q3]
  rw [List.getElem?_map, List.getElem?_map, h] at q4
  exact He5.DefA.funD (Option.some.inj q4) (List.all_eq_true.mp q2 d (List.mem_of_getElem? h))
end
end DL
/-! DLI: loops and comprehensions by invariants; slices. -/
namespace DL
open PySem PySem.Spec PyProof.Rows L2
theorem for_invA {g : Nat} {tg : DTG} {tb : DTS} {E : DEnds} (I : Nat → DSt → Prop) : ∀ (ds : List D) (n : Nat) (τ : DSt),
    (∀ k d τ (E' : DEnds), ds[k]? = some d → E'.rt = E.rt → E'.rb = E.rb → E'.bk = E.nx → (∀ τ', I (n + k + 1) τ' → E'.nx τ') → (∀ τ', I (n + k + 1) τ' → E'.ct τ') → I (n + k) τ → tg (up g d) d τ (tb E')) →
    (∀ τ, I (n + ds.length) τ → E.nx τ) → I n τ → forRec g tg tb E ds τ
  | [], n, τ, _, hf, h => hf τ h
  | d :: ds, n, τ, hs, hf, h => by
    have ih : ∀ τ', I (n + 0 + 1) τ' → forRec g tg tb E ds τ' := fun τ' h' => for_invA I ds (n + 1) τ'
      (fun k d τ E' e h1 h1b h2 h3 h4 h5 => hs (k + 1) d τ E' (by simpa using e) h1 h1b h2 (fun τ' z => h3 τ' (by rw [show n + 1 + k + 1 = n + (k + 1) + 1 by omega]; exact z)) (fun τ' z => h4 τ' (by rw [show n + 1 + k + 1 = n + (k + 1) + 1 by omega]; exact z)) (by rw [show n + (k + 1) = n + 1 + k by omega]; exact h5))
      (fun τ z => hf τ (by rw [show n + (d :: ds).length = n + 1 + ds.length by rw [List.length_cons]; omega]; exact z)) h'
    exact hs 0 d τ { E with nx := forRec g tg tb E ds, ct := forRec g tg tb E ds, bk := E.nx } rfl rfl rfl rfl ih ih h
/-- a for by what holds ahead of each turn -/
theorem for_inv {g : Nat} {tg : DTG} {tb : DTS} {E : DEnds} (I : Nat → DSt → Prop) {ds : List D} {τ : DSt} (h0 : I 0 τ)
    (hs : ∀ k d τ (E' : DEnds), ds[k]? = some d → E'.rt = E.rt → E'.rb = E.rb → E'.bk = E.nx → (∀ τ', I (k + 1) τ' → E'.nx τ') → (∀ τ', I (k + 1) τ' → E'.ct τ') → I k τ → tg (up g d) d τ (tb E'))
    (hf : ∀ τ, I ds.length τ → E.nx τ) : forRec g tg tb E ds τ :=
  for_invA I ds 0 τ (fun k d τ E' e h1 h1b h2 h3 h4 h5 => hs k d τ E' e h1 h1b h2 (fun τ' z => h3 τ' (by rw [Nat.zero_add]; exact z)) (fun τ' z => h4 τ' (by rw [Nat.zero_add]; exact z)) (by rw [Nat.zero_add] at h5; exact h5)) (fun τ z => hf τ (by rw [Nat.zero_add] at z; exact z)) h0
/-- over written-out data: xs stands for the data -/
theorem for_map {α : Type} (enc : α → D) {g : Nat} {tg : DTG} {tb : DTS} {E : DEnds} (I : List α → DSt → Prop) {xs : List α} {τ : DSt} (h0 : I [] τ)
    (hs : ∀ pre x post τ (E' : DEnds), xs = pre ++ x :: post → E'.rt = E.rt → E'.rb = E.rb → E'.bk = E.nx → (∀ τ', I (pre ++ [x]) τ' → E'.nx τ') → (∀ τ', I (pre ++ [x]) τ' → E'.ct τ') → I pre τ → tg (up g (enc x)) (enc x) τ (tb E'))
    (hf : ∀ τ, I xs τ → E.nx τ) : forRec g tg tb E (xs.map enc) τ := by
  refine for_inv (fun k τ => I (xs.take k) τ) h0 (fun k d τ E' e h1 h1b h2 h3 h4 h5 => ?_) fun τ z => hf τ (by rwa [List.length_map, List.take_length] at z)
  rw [List.getElem?_map] at e
  obtain ⟨x, e1, rfl⟩ := Option.map_eq_some_iff.mp e
  obtain ⟨hk, e2⟩ := List.getElem?_eq_some_iff.mp e1
  have e3 : xs.take (k + 1) = xs.take k ++ [x] := by rw [List.take_succ, e1]; rfl
  refine hs (xs.take k) x (xs.drop (k + 1)) τ E' ?_ h1 h1b h2 (fun τ' z => h3 τ' (by rw [e3]; exact z)) (fun τ' z => h4 τ' (by rw [e3]; exact z)) h5
  rw [← e2, ← List.drop_eq_getElem_cons hk, List.take_append_drop]
theorem rangeL_at : ∀ (n : Nat) (lo : Int) (k : Nat) (d : D), (rangeL lo n)[k]? = some d → k < n ∧ d = .int (lo + k)
  | 0, lo, k, d, e => by simp at e
  | n + 1, lo, 0, d, e => by simp at e; exact ⟨by omega, by rw [← e]; simp⟩
  | n + 1, lo, k + 1, d, e => by
    simp only [rangeL, List.getElem?_cons_succ] at e
    obtain ⟨h1, h2⟩ := rangeL_at n (lo + 1) k d e
    exact ⟨by omega, by rw [h2]; congr 1; omega⟩
/-- over range(lo, lo + n) -/
theorem for_rng {g : Nat} {tg : DTG} {tb : DTS} {E : DEnds} (I : Nat → DSt → Prop) {lo : Int} {n : Nat} {τ : DSt} (h0 : I 0 τ)
    (hs : ∀ (k : Nat) τ (E' : DEnds), k < n → E'.rt = E.rt → E'.rb = E.rb → E'.bk = E.nx → (∀ τ', I (k + 1) τ' → E'.nx τ') → (∀ τ', I (k + 1) τ' → E'.ct τ') → I k τ → tg (up g (.int (lo + k))) (.int (lo + k)) τ (tb E'))
    (hf : ∀ τ, I n τ → E.nx τ) : forRec g tg tb E (rangeL lo n) τ :=
  for_inv I h0 (fun k d τ E' e h1 h1b h2 h3 h4 h5 => by
    obtain ⟨hk, rfl⟩ := rangeL_at n lo k d e
    exact hs k τ E' hk h1 h1b h2 h3 h4 h5) fun τ z => hf τ (by rwa [rangeL_len] at z)
/-! ### comprehensions -/
/-- one element -/
@[simp] def compOne (g : Nat) (tg : DTG) (tt : DTT) (te : DTE) (τ : DSt) (acc : List D) (C : List D → Prop) (x : D) : Prop :=
  tg (up g x) x τ fun τ1 => tt τ1 fun b => if b = true then te τ1 fun sl => (Nat.ble 2 sl.g || sl.d.imm) = true ∧ acc.length < 1000000 ∧ C (acc ++ [sl.d]) else C acc
theorem comp_invA {g : Nat} {tg : DTG} {tt : DTT} {te : DTE} {τ : DSt} {Q : Sl → Prop} (J : Nat → List D → Prop) : ∀ (ds : List D) (n : Nat) (acc : List D),
    (∀ k d acc (C : List D → Prop), ds[k]? = some d → (∀ acc', J (n + k + 1) acc' → C acc') → J (n + k) acc → compOne g tg tt te τ acc C d) →
    (∀ acc, J (n + ds.length) acc → Q (.own acc)) → J n acc → compRec g tg tt te τ Q ds acc
  | [], n, acc, _, hf, h => hf acc h
  | d :: ds, n, acc, hs, hf, h => by
    refine hs 0 d acc (compRec g tg tt te τ Q ds) rfl (fun acc' z => ?_) h
    exact comp_invA J ds (n + 1) acc' (fun k d acc C e h1 h2 => hs (k + 1) d acc C (by simpa using e) (fun a z => h1 a (by rw [show n + 1 + k + 1 = n + (k + 1) + 1 by omega]; exact z)) (by rw [show n + (k + 1) = n + 1 + k by omega]; exact h2)) (fun a z => hf a (by rw [show n + (d :: ds).length = n + 1 + ds.length by rw [List.length_cons]; omega]; exact z)) z
theorem comp_inv {g : Nat} {tg : DTG} {tt : DTT} {te : DTE} {τ : DSt} {Q : Sl → Prop} (J : Nat → List D → Prop) {ds : List D} (h0 : J 0 [])
    (hs : ∀ k d acc (C : List D → Prop), ds[k]? = some d → (∀ acc', J (k + 1) acc' → C acc') → J k acc → compOne g tg tt te τ acc C d)
    (hf : ∀ acc, J ds.length acc → Q (.own acc)) : compRec g tg tt te τ Q ds [] :=
  comp_invA J ds 0 [] (fun k d acc C e h1 h2 => hs k d acc C e (fun a z => h1 a (by rw [Nat.zero_add]; exact z)) (by rw [Nat.zero_add] at h2; exact h2)) (fun a z => hf a (by rw [Nat.zero_add] at z; exact z)) h0
/-- elements drawn: each one keeps P -/
theorem comp_draw {g : Nat} {tg : DTG} {tt : DTT} {te : DTE} {τ : DSt} {Q : Sl → Prop} {α : Type} (enc : α → D) (P : α → Prop) {n : Nat} {lo : Int} (hn : n < 1000000)
    (hs : ∀ (k : Nat) (acc : List D) (C : List D → Prop), k < n → acc.length < 1000000 → (∀ x, P x → C (acc ++ [enc x])) → compOne g tg tt te τ acc C (.int (lo + k)))
    (hf : ∀ xs : List α, xs.length = n → (∀ x ∈ xs, P x) → Q (.own (xs.map enc))) : compRec g tg tt te τ Q (rangeL lo n) [] := by
  refine comp_inv (fun k acc => ∃ xs : List α, acc = xs.map enc ∧ xs.length = k ∧ ∀ x ∈ xs, P x) ⟨[], rfl, rfl, fun x h => by cases h⟩ (fun k d acc C e h1 h2 => ?_) fun acc ⟨xs, e1, e2, e3⟩ => by rw [rangeL_len] at e2; rw [e1]; exact hf xs e2 e3
  obtain ⟨hk, rfl⟩ := rangeL_at n lo k d e
  obtain ⟨xs, rfl, e2, e3⟩ := h2
  refine hs k _ C hk (by rw [List.length_map]; omega) fun x hx => h1 _ ⟨xs ++ [x], by simp, by simp [e2], fun y hy => ?_⟩
  rcases List.mem_append.mp hy with hy | hy
  · exact e3 y hy
  · simp at hy
    rw [hy]; exact hx
/-- elements worked out one by one: f tells what each gives, if anything -/
theorem comp_map {g : Nat} {tg : DTG} {tt : DTT} {te : DTE} {τ : DSt} {Q : Sl → Prop} {α : Type} (enc : α → D) (f : α → Option D) {xs : List α} (hl : xs.length < 1000000)
    (hs : ∀ x ∈ xs, ∀ (acc : List D) (C : List D → Prop), acc.length < 1000000 → C (acc ++ (f x).toList) → compOne g tg tt te τ acc C (enc x))
    (hf : Q (.own (xs.filterMap f))) : compRec g tg tt te τ Q (xs.map enc) [] := by
  refine comp_inv (fun k acc => acc = (xs.take k).filterMap f) rfl (fun k d acc C e h1 h2 => ?_) fun acc e => by rw [List.length_map, List.take_length] at e; rw [e]; exact hf
  rw [List.getElem?_map] at e
  obtain ⟨x, e1, rfl⟩ := Option.map_eq_some_iff.mp e
  subst h2
  refine hs x (List.mem_of_getElem? e1) _ C (Nat.lt_of_le_of_lt (Nat.le_trans (List.length_filterMap_le _ _) (List.length_take_le _ _)) ?_) (h1 _ ?_)
  · exact Nat.lt_trans (List.getElem?_eq_some_iff.mp e1).1 hl
  · rw [List.take_succ, e1, List.filterMap_append]
    cases h : f x <;> simp [h]
/-! ### slices -/
theorem cutG_to {α : Type} (xs : List α) (n : Int) (h : 0 ≤ n) : cutG xs none (some n) = xs.take n.toNat := by
  unfold cutG
  rw [HT.sIx_none, show n = (n.toNat : Int) by omega, HT.sIx_nat, List.drop_zero, Nat.sub_zero, Int.toNat_natCast]
  rcases Nat.le_total n.toNat xs.length with e | e
  · rw [Nat.min_eq_left e]
  · rw [Nat.min_eq_right e, List.take_of_length_le (Nat.le_refl _), List.take_of_length_le e]
theorem cutG_from {α : Type} (xs : List α) (n : Int) (h : 0 ≤ n) : cutG xs (some n) none = xs.drop n.toNat := by
  unfold cutG
  rw [HT.sIx_none, show n = (n.toNat : Int) by omega, HT.sIx_nat, Int.toNat_natCast]
  rcases Nat.le_total n.toNat xs.length with e | e
  · rw [Nat.min_eq_left e]
    exact List.take_of_length_le (by rw [List.length_drop]; exact Nat.le_refl _)
  · rw [Nat.min_eq_right e, List.drop_eq_nil_of_le (Nat.le_refl _), List.drop_eq_nil_of_le e]
    exact List.take_nil
theorem atI_at {α : Type} {ds : List α} {i : Int} {x : α} (h : 0 ≤ i) (e : ds[i.toNat]? = some x) : L2.atI ds i = some x := by
  rw [show i = (i.toNat : Int) by omega, atI_k]
  exact e
end DL
namespace DL
open PySem PySem.Spec PyProof.Rows L2
end DL
/-! DL19: defs with keyword-only defaults. -/
namespace DL
open PySem PySem.Spec PyProof.Rows L2
end DL
/-! DL20: a, b, c = x, y, z. -/
namespace DL
open PySem PySem.Spec PyProof.Rows L2
@[simp] def dPar3 (i j k : Nat) (ta tb tc : DTE) : DTS := fun E τ => ta τ fun x => tb τ fun y => tc τ fun z => setQ i τ (fun τ1 => setQ j τ1 (fun τ2 => setQ k τ2 E.nx z) y) x
section
variable {K : PySem.W.Frag} {T : Tab} {S : Sit} {τ : DSt} {σ : L2.St} {H H1 : Hp}
end
section
variable {X : Cx} {T : Tab} {ek : EK} {a b c : Expr} {ta tb tc : DTE} {x y z : Str} {i j k : Nat} {pos px py pz pt pt2 : Pos} {kt k2 : Nat}
end
end DL
/-! DX1: defs that may raise: contracts with a second way out; calls of them as whole statements. -/
namespace DL
open PySem PySem.Spec PyProof.Rows L2
abbrev CtrX := List D → (Sl → Prop) → (Er → Prop) → Prop
abbrev CtrXI := List D → (List D → Prop) → (Er → Prop) → Prop
abbrev DTEx := DSt → (Sl → Prop) → (Er → Prop) → Prop
/-- an expression that may raise -/
def UpEx (K : PySem.W.Frag) (T : Tab) (ek : EK) (t : DTEx) : TE := fun σ H Q => ∃ (S : Sit) (τ : DSt) (QD : Sl → Prop) (QE : Er → Prop), SR K T S τ σ H ∧ t τ QD QE ∧ (∀ H' v sl, Aft K T S H H' → RepSl K T S H H' sl v → QD sl → Q v H') ∧
  ∀ H' er cls d, Aft K T S H H' → ErR K T ek.mg S.B H' er cls d → QE er → ek.E cls d H'
/-- what such a def promises -/
def spX (K : PySem.W.Frag) (T : Tab) (mg : Str → Option Value) (C : CtrX) : Sp := fun vs H Q E => ∃ (B : Option Addr) (L : LX) (M : Addr → Prop) (ds : List D) (QD : Sl → Prop) (QE : Er → Prop), BagOk T B L H ∧ (∀ a, M a → Lv H a) ∧ Reps K T B (fun a => B = some a) H ds vs ∧ C ds QD QE ∧
  (∀ H' v sl, Kp (fun a => B = some a) H H' → BagOk T B L H' → RepR K T B M H H' sl v → QD sl → Q v H') ∧
  ∀ H' er cls d, Kp (fun a => B = some a) H H' → BagOk T B L H' → ErR K T mg B H' er cls d → QE er → E cls d H'
theorem spX_of {K : PySem.W.Frag} {T : Tab} {mg : Str → Option Value} {S : Sit} {τ : DSt} {σ : L2.St} {H : Hp} {C : CtrX} {ds : List D} {vs : List V} {QD : Sl → Prop} {QE : Er → Prop} {Q : VK} {E : XK} {g : Nat} (sr : SR K T S τ σ H) (r : RepsG K T S g H ds vs) (q : C ds QD QE)
    (k : ∀ H' v sl, Aft K T S H H' → RepSl K T S H H' sl v → QD sl → Q v H') (kx : ∀ H' er cls d, Aft K T S H H' → ErR K T mg S.B H' er cls d → QE er → E cls d H') : spX K T mg C vs H Q E :=
  ⟨S.B, S.L, gset S 2, ds, QD, QE, sr.bag, sr.mal, Reps.anti (sr.gsub g) ds vs r, q, fun H' v sl kp bag rr q' => k H' v sl ⟨kp, bag⟩ (RepR.sl sr rr) q', fun H' er cls d kp bag e q' => kx H' er cls d ⟨kp, bag⟩ e q'⟩
section
variable {P : Program} {w : World} {K : PySem.W.Frag} {T : Tab} {mg : Str → Option Value} {base : Heap} {x qual : Str} {params : Arguments} {body : List Stmt} {scope : Scope} {dvs : List V} {kws : List (Str × V)} {f : Addr} {fd : FuncData} {N ps : List Str} {k : Nat}
/-- a def that keeps such a contract -/
theorem fnx_ok (F : FunD K x qual params body scope dvs kws f fd) (S : FnScope N ps scope) (C : CtrX) (t : DTS) (hl : ∀ ds QD QE, C ds QD QE → ds.length = ps.length)
    (hb : ∀ (cdv : Value) (A : Around) (outer : List Env) (s : Shared) (H : Hp) (E : XK), Room k (A.deeper (envOfC qual scope s.heap.objs.size f cdv)) → PSs (cxOf (L2.CX P w) P w K mg base N qual scope f cdv A outer s H E) body (UpS K T ⟨mg, E⟩ t))
    (hp : ∀ ds QD QE, C ds QD QE → t { nx := fun _ => QD (.v 2 .non), rt := QD, er := QE } (startD N ds)) : FnOk P w K mg base (L2.CX P w) (k + 1) f fd ps (spX K T mg C) := by
  refine F.ok S (fun vs H Q E h => ?_) (fun cdv A outer s H vs Q E hr h => ⟨UpS K T ⟨mg, E⟩ t, hb cdv A outer s H E hr, ?_⟩)
  · obtain ⟨B, L, M, ds, QD, QE, _, _, r, q, _⟩ := h
    rw [r.len]; exact hl ds QD QE q
  · obtain ⟨B, L, M, ds, QD, QE, bag, hm, r, q, kk, kx⟩ := h
    have kb : ∀ {H' : Hp}, Kp (fun a => B = some a ∨ False) H H' → Kp (fun a => B = some a) H H' := fun z => z.mono fun _ z => Or.elim z (fun z => z) (fun z => by cases z)
    exact ⟨⟨B, L, fun _ => False, H, M, fun a => B = some a, []⟩, startD N ds, _, sr_start bag hm r, hp ds QD QE q, ⟨fun P' τ' σ' H' sr q' => kk H' .non (.v 2 .non) (kb sr.kp) sr.bag rfl q', fun _ _ _ _ _ z => z.elim, fun _ _ _ _ _ z => z.elim, fun H' v sl kp bag' rr q' => kk H' v sl (kb kp) bag' rr q', fun _ _ _ _ _ _ _ _ z => z.elim,
      fun H' er cls d kp bag' e q' => kx H' er cls d (kb kp) bag' e q', fun _ _ _ _ _ _ _ _ z => z.elim, fun _ _ _ _ _ _ _ _ _ z => z.elim⟩⟩
/-- the same without the second way out -/
theorem FnOk.calm {sp : Sp} {ps : List Str} (F : FnOk P w K mg base (L2.CX P w) k f fd ps sp) : FnOk P w K mg base CX0 k f fd ps (fun vs H Q _ => sp vs H Q fun _ _ _ => False) := by
  refine ⟨fun vs H Q E h => F.len vs H Q _ h, fun A outer s H args us vs Q E hr e0 hb r h => codeAny_mono (F.run A outer s H args us vs Q _ hr e0 hb r h) fun r s' hq => ?_⟩
  cases r with
  | error e =>
    obtain ⟨_, _, _, _, _, _, _, _, _, _, _, _, z⟩ := hq
    exact z.elim
  | ok fl => cases fl <;> exact hq
theorem spC_X {C : CtrX} {vs : List V} {H : Hp} {Q : VK} {E : XK} (h : spC K T (fun ds Q => C ds Q fun _ => False) vs H Q E) : spX K T mg C vs H Q fun _ _ _ => False := by
  obtain ⟨B, L, M, ds, QD, bag, hm, r, q, kk⟩ := h
  exact ⟨B, L, M, ds, QD, fun _ => False, bag, hm, r, q, kk, fun _ _ _ _ _ _ _ z => z⟩
end
structure FnX (P : Program) (w : World) (K : PySem.W.Frag) (T : Tab) (mg : Str → Option Value) (base : Heap) (x : Str) (k : Nat) (dd : List D) (C : CtrX) : Prop where
  ex : ∃ (f : Addr) (fd : FuncData) (ps : List Str) (ds : List Value) (dvs : List V), mg x = some (.ref f) ∧ PySem.W.keepIn K (.ref f) = true ∧ Binds K fd ps ds ∧ Vals dvs ds ∧ isScs dd dvs ∧ FnOk P w K mg base (L2.CX P w) k f fd ps (spX K T mg C)
/-- a call of it where it raises nothing -/
theorem FnX.calm {P : Program} {w : World} {K : PySem.W.Frag} {T : Tab} {mg : Str → Option Value} {base : Heap} {x : Str} {k : Nat} {dd : List D} {C : CtrX} {C' : Ctr} (F : FnX P w K T mg base x k dd C) (h : ∀ ds Q, C' ds Q → C ds Q fun _ => False) : Fn P w K T mg base x k dd C' := by
  obtain ⟨f, fd, ps, ds, dvs, h1, h2, h3, h4, h5, h6⟩ := F.ex
  refine ⟨f, fd, ps, ds, dvs, h1, h2, h3, h4, h5, (FnOk.calm h6).imp fun vs H Q E z => spC_X (E := E) ?_⟩
  obtain ⟨B, L, M, ds, QD, bag, hm, r, q, kk⟩ := z
  exact ⟨B, L, M, ds, QD, bag, hm, r, h ds QD q, kk⟩
structure MtX (P : Program) (w : World) (K : PySem.W.Frag) (T : Tab) (mg : Str → Option Value) (base : Heap) (c : Nat) (m : Str) (k : Nat) (dd : List D) (C : CtrX) : Prop where
  ex : ∃ (f : Addr) (fd : FuncData) (ps : List Str) (ds : List Value) (dvs : List V), Cls K (T c).1 ∧ Meth K (T c).1 m f ∧ m ∉ (T c).2 ∧ Binds K fd ps ds ∧ Vals dvs ds ∧ isScs dd dvs ∧ FnOk P w K mg base (L2.CX P w) k f fd ps (spX K T mg C)
theorem MtX.calm {P : Program} {w : World} {K : PySem.W.Frag} {T : Tab} {mg : Str → Option Value} {base : Heap} {c : Nat} {m : Str} {k : Nat} {dd : List D} {C : CtrX} {C' : Ctr} (F : MtX P w K T mg base c m k dd C) (h : ∀ ds Q, C' ds Q → C ds Q fun _ => False) : Mt P w K T mg base c m k dd C' := by
  obtain ⟨f, fd, ps, ds, dvs, h1, h2, h3, h4, h5, h6, h7⟩ := F.ex
  refine ⟨f, fd, ps, ds, dvs, h1, h2, h3, h4, h5, h6, (FnOk.calm h7).imp fun vs H Q E z => spC_X (E := E) ?_⟩
  obtain ⟨B, L, M, ds, QD, bag, hm, r, q, kk⟩ := z
  exact ⟨B, L, M, ds, QD, bag, hm, r, h ds QD q, kk⟩
/-! ### calls that may raise -/
@[simp] def dCallX (C : CtrX) (dd : List D) (ta : DTA) : DTEx := fun τ Q R => ta τ fun _ ds => C (ds ++ dd) Q R
@[simp] def dMethX (c : Nat) (C : CtrX) (dd : List D) (to : DTE) (ta : DTA) : DTEx := fun τ Q R => to τ fun o => match o.d with
  | .obj c' fs => c' = c ∧ ta τ fun _ ds => C (.obj c fs :: (ds ++ dd)) Q R
  | _ => False
/-- an expression that raises nothing, as one that may -/
@[simp] def dX (te : DTE) : DTEx := fun τ Q _ => te τ Q
section
variable {X : Cx} {T : Tab} {k : Nat} {f : Addr} {fd : FuncData} {ps : List Str} {C : CtrX} {dd : List D} {E : XK} {x m : Str} {p pos apos : Pos} {e o : Expr} {es : List Expr} {te to : DTE} {t : DTA} {c : Nat}
theorem dx_fn (F : FnX X.prog X.w X.K T X.mg X.base x k dd C) (hr : Room k X.A) (hx : Passes (L2.CX X.prog X.w) X E) (hg : Gl X x) (ha : PA X (e :: es) (UpA X.K T t)) (hdb : (x == ("__debug__" : Str)) = false := by decide) (he : starEach (e :: es) X.env = (false, eval e X.env) :: starEach es X.env := by rfl)
    (hpl : (backTo pos (starEach es X.env)).any (·.1) = false := by rfl) : PE X (.Call (.Name x p) (e :: es) [] pos) (UpEx X.K T ⟨X.mg, E⟩ (dCallX C dd t)) := by
  obtain ⟨f, fd, ps, ds, dvs, h1, h2, h3, h4, h5, h6⟩ := F.ex
  exact (pe_call h6 hr hg h1 h2 h3 h4 hx ha hdb he hpl).of fun σ H Q ⟨S, τ, QD, QE, sr, h, k, kx⟩ => ⟨S, τ, _, sr, h, fun H1 vs g ds a r q =>
    spX_of (sr.aft a) (r.append h5.rep) q (fun H' v sl a2 r2 q2 => k H' v sl (a.trans a2) (r2.back a) q2) fun H' er cls d a2 e2 q2 => kx H' er cls d (a.trans a2) e2 q2⟩
end
/-! ### statements over them -/
@[simp] def dRetX (te : DTEx) : DTS := fun D τ => te τ (fun sl => sto sl = true ∧ D.rt (out sl)) D.er
@[simp] def dSetX (i : Nat) (te : DTEx) : DTS := fun D τ => te τ (setQ i τ D.nx) D.er
@[simp] def dSetOX (i : Nat) (te : DTEx) : DTS := fun D τ => te τ (setOQ i τ D.nx) D.er
@[simp] def dDropX (te : DTEx) : DTS := fun D τ => te τ (fun _ => D.nx τ) D.er
section
variable {X : Cx} {T : Tab} {ek : EK} {e : Expr} {te : DTEx} {pos pos' : Pos} {i : Nat} {x : Str}
theorem ds_exprX (he : PE X e (UpEx X.K T ek te)) (hs : swapsWith e none pos.line X.env = pure false := by rfl) : PS X (.Expr e pos) (UpS X.K T ek (dDropX te)) :=
  (ps_expr he hs).of fun D σ H ⟨S, τ, DD, sr, h, o⟩ => ⟨S, τ, _, _, sr, h, fun H1 v sl a r q => o.nx S.P τ σ H1 (sr.aft a) q, fun H1 er cls d a e q => o.er H1 er cls d (sr.aft a).kp a.bag e q⟩
end
end DL
/-! DX2: own error classes: made with their fields, raised. -/
namespace DL
open PySem PySem.Spec PyProof.Rows L2
/-- what stands behind an __init__ that sets the fields fs (the last first) of a new error at a -/
def spErr (C : Addr) (n : Nat) (fs : List V → List (Str × V)) : Sp := fun vs H Q _ => ∃ (a : Addr) (ws : List V), vs = .ref a :: ws ∧ ws.length = n ∧ H a = some (exo a C none) ∧
  ∀ (dx : Addr) (H' : Hp), H dx = none → dx ≠ a → H' a = some (exo a C (some dx)) → H' dx = some (exd dx (fs ws)) → (∀ b, b ≠ a → b ≠ dx → H' b = H b) → Q .non H'
section
variable {P : Program} {w : World} {K : PySem.W.Frag} {mg : Str → Option Value} {base : Heap} {x qual : Str} {params : Arguments} {scope : Scope} {f : Addr} {fd : FuncData} {N : List Str} {k : Nat} {C : Addr}
theorem upd2 {H : Hp} {a b : Addr} {o u : HO} (h : a ≠ b) : upd (upd H a o) b u a = some o := by rw [upd_ne h, upd_same]
/-- def __init__(self, p): self.word = w; self.p = p -/
theorem err1_ok {wd sf f0 f1 v1 : Str} {j : Nat} {p1 p2 p3 p4 p5 p6 p7 p8 : Pos} (F : FunD K x qual params [.Assign [.Attribute (.Name sf p1) f0 p2] (.Constant (.str wd) j p3) p4, .Assign [.Attribute (.Name sf p5) f1 p6] (.Name v1 p7) p8] scope [] [] f fd) (S : FnScope [sf, v1] [sf, v1] scope) (T : OexC K C)
    (h0 : PySem.W.findIn K (.ref C) f0 = some none) (h1 : PySem.W.findIn K (.ref C) f1 = some none) (v0 : Vis scope sf) (v1' : Vis scope v1) (d0 : (sf == ("__debug__" : Str)) = false) (d1 : (sf == ("__classdict__" : Str)) = false) (d2 : (v1 == ("__debug__" : Str)) = false) (d3 : (v1 == ("__classdict__" : Str)) = false) :
    FnOk P w K mg base CX0 (k + 1) f fd [sf, v1] (spErr C 1 fun ws => [(f1, ws.getD 0 .non), (f0, .str wd)]) := by
  refine F.ok S (fun vs H Q E h => ?_) (fun cdv A outer s H vs Q E hr h => ?_)
  · obtain ⟨a, ws, rfl, hw, _⟩ := h
    rw [List.length_cons, hw]; rfl
  · obtain ⟨a, ws, rfl, hw, ha, q⟩ := h
    obtain ⟨y, rfl⟩ := List.length_eq_one_iff.mp hw
    refine ⟨_, (PSs.nox (pss_cons (ps_ost (pe_var (i := 0) rfl v0 d0 d1) pe_str) (pss_one (ps_ost (pe_var (i := 0) rfl v0 d0 d1) (pe_var (i := 1) rfl v1' d2 d3))))), ?_⟩
    refine ⟨.ref a, rfl, a, C, rfl, T, h0, .inl ⟨ha, fun dx hn ne => ?_⟩⟩
    refine ⟨y, rfl, .ref a, rfl, a, C, rfl, T, h1, .inr ⟨dx, _, upd_same, upd2 ne, by simp, ?_⟩⟩
    exact q dx _ hn ne (by rw [upd_ne (Ne.symm ne), upd_same]) upd_same fun b h1 h2 => by rw [upd_ne h2, upd_ne h1, upd_ne h2]
end
/-- the fields of such an error, the last first -/
def errV (ps : List Str) (ws : List V) (x : Str) : List (Str × V) := (ps.zip ws).reverse ++ [(("word" : Str), V.str x)]
/-- what a raise of the class asks: its address, its __init__ -/
structure ErC (P : Program) (w : World) (K : PySem.W.Frag) (mg : Str → Option Value) (base : Heap) (x : Str) (k : Nat) (ps : List Str) : Prop where
  ex : ∃ (C fI : Addr) (fd : FuncData) (pp : List Str), mg x = some (.ref C) ∧ OexC K C ∧ PySem.W.findIn K (.ref C) "__init__" = some (some (.ref fI)) ∧ PySem.W.typeIn K (.ref fI) = some (.type "function") ∧ Binds K fd pp [] ∧
    FnOk P w K mg base CX0 k fI fd pp (spErr C ps.length fun ws => errV ps ws x)
/-- the error that such a raise makes -/
def mkEr (x : Str) (ps : List Str) (ds : List D) : Er := ⟨x, (ps.zip ds).reverse ++ [(("word" : Str), D.str x)]⟩
@[simp] def dRaise (x : Str) (ps : List Str) (ta : DTA) : DTS := fun D τ => ta τ fun _ ds => ds.length = ps.length ∧ immAll ds = true ∧ D.er (mkEr x ps ds)
theorem zip_rev {α : Type} : ∀ (ps : List Str) (vs : List α), vs.length = ps.length → ps.reverse.zip vs.reverse = (ps.zip vs).reverse
  | [], _, h => by rw [List.length_eq_zero_iff.mp h]; rfl
  | p :: ps, [], h => by simp at h
  | p :: ps, v :: vs, h => by
    simp at h
    rw [List.reverse_cons, List.reverse_cons, List.zip_append (by simp [h]), zip_rev ps vs h]
    simp
theorem immAll_rev (xs : List D) : immAll xs.reverse = immAll xs := by
  induction xs with
  | nil => rfl
  | cons x xs ih => simp [immAll_app, ih, Bool.and_comm]
theorem Reps.rev {K : PySem.W.Frag} {T : Tab} {B : Option Addr} {M : Addr → Prop} {H : Hp} : ∀ {ds : List D} {vs : List V}, Reps K T B M H ds vs → Reps K T B M H ds.reverse vs.reverse
  | [], _, h => by rw [show _ = [] from h]; rfl
  | d :: ds, _, ⟨v, r, e, h1, h2⟩ => by
    rw [e, List.reverse_cons, List.reverse_cons]
    exact Reps.append (Reps.rev h2) (Reps.one h1)
theorem zip_fst {α : Type} : ∀ (ps : List Str) (xs : List α), xs.length = ps.length → (ps.zip xs).map (·.1) = ps
  | [], _, _ => rfl
  | p :: ps, x :: xs, h => by simp at h; simp [zip_fst ps xs h]
  | p :: ps, [], h => by simp at h
theorem zip_snd {α : Type} : ∀ (ps : List Str) (xs : List α), xs.length = ps.length → (ps.zip xs).map (·.2) = xs
  | [], [], _ => rfl
  | [], x :: xs, h => by simp at h
  | p :: ps, x :: xs, h => by simp at h; simp [zip_snd ps xs h]
  | p :: ps, [], h => by simp at h
section
variable {X : Cx} {T : Tab} {E : XK} {x : Str} {k : Nat} {ps : List Str} {e : Expr} {es : List Expr} {t : DTA} {p p2 pos : Pos}
theorem er_rep {K : PySem.W.Frag} {mg : Str → Option Value} {B : Option Addr} {H : Hp} {C dx : Addr} {ds : List D} {vs : List V} (hm : mg x = some (.ref C)) (hl : ds.length = ps.length) (hi : immAll ds = true) (r : Reps K T B (fun _ => True) H ds vs) (hd : H dx = some (.xd (errV ps vs x))) : ErR K T mg B H (mkEr x ps ds) (.ref C) (some dx) := by
  have hv : vs.length = ps.length := by rw [r.len, hl]
  have e1 : ((mkEr x ps ds).fs.map (·.1)) = ps.reverse ++ [("word" : Str)] := by simp [mkEr, List.map_reverse, zip_fst ps ds hl]
  have e2 : ((mkEr x ps ds).fs.map (·.2)) = ds.reverse ++ [.str x] := by simp [mkEr, List.map_reverse, zip_snd ps ds hl]
  refine ⟨C, dx, vs.reverse ++ [.str x], hm, rfl, rfl, ?_, ?_, ?_⟩
  · rw [hd, e1]
    unfold errV
    congr 2
    rw [List.zip_append (by simp [hv])]
    congr 1
    exact (zip_rev ps vs hv).symm
  · rw [e2, immAll_app, immAll_rev, hi]; rfl
  · rw [e2]
    exact (Reps.rev r).append (Reps.one rfl)
theorem raise_core {S : Sit} {τ : DSt} {σ : L2.St} {H1 : Hp} {ek : EK} {DD : DEnds} {DE : Ends} {vs : List V} {g : Nat} {ds : List D} {C a : Addr} (sr : SR X.K T S τ σ H1) (r : RepsG X.K T S g H1 ds vs) (hl : ds.length = ps.length) (hi : immAll ds = true) (o : Out X.K T ek S DD DE) (hm : ek.mg x = some (.ref C)) (q : DD.er (mkEr x ps ds)) (ha : H1 a = none)
    : spErr C ps.length (fun ws => errV ps ws x) (.ref a :: vs) (upd H1 a (exo a C none)) (fun v H2 => v = .non ∧ ∃ (d : Addr) (fs : List (Str × V)), H2 a = some (exo a C (some d)) ∧ H2 d = some (exd d fs) ∧ H1 d = none ∧ ek.E (.ref C) (some d) (upd (del H2 a) d (.xd fs))) (fun _ _ _ => False) := by
  refine ⟨a, vs, rfl, by rw [r.len, hl], upd_same, fun dx H' hn ne e1 e2 e3 => ⟨rfl, dx, _, e1, e2, by rwa [upd_ne ne] at hn, ?_⟩⟩
  have hn1 : H1 dx = none := by rwa [upd_ne ne] at hn
  have eH : upd (del H' a) dx (.xd (errV ps vs x)) = upd H1 dx (.xd (errV ps vs x)) := by
    funext b
    by_cases h1 : b = dx
    · rw [h1, upd_same, upd_same]
    · rw [upd_ne h1, upd_ne h1]
      by_cases h2 : b = a
      · rw [h2, del_same, ha]
      · rw [del_ne h2, e3 b h2 h1, upd_ne h2]
  rw [eH]
  have a2 := sr.laid (o := .xd (errV ps vs x)) hn1
  refine o.er _ _ _ _ (sr.aft a2).kp a2.bag (er_rep hm hl hi ?_ upd_same) q
  exact Reps.imm ds vs hi (sr.reps a2.kp r)
/-- raise C(..) -/
theorem ds_raise (F : ErC X.prog X.w X.K X.mg X.base x k ps) (hc : X.calm = true) (tk : L2.Takes X fun cls d _ H => E cls d H) (hr : Room (k + 1) X.A) (hg : Gl X x) (ha : PA X (e :: es) (UpA X.K T t)) (hdb : (x == ("__debug__" : Str)) = false := by decide)
    (he : starEach (e :: es) X.env = (false, eval e X.env) :: starEach es X.env := by rfl) (hpl : (backTo pos (starEach es X.env)).any (·.1) = false := by rfl) (hps : ps.length ≤ 1000 := by decide) : PS X (.Raise (some (.Call (.Name x p) (e :: es) [] pos)) none p2) (UpS X.K T ⟨X.mg, E⟩ (dRaise x ps t)) := by
  obtain ⟨C, fI, fd, pp, hm, T1, h2, h3, h4, h5⟩ := F.ex
  refine (L2.ps_raise hc tk (pmk_oex T1 h2 h3 h5 hr h4 .nil (fun _ _ _ _ _ _ _ z => z.elim) hg hm ha hdb he hpl)).of fun D σ H ⟨S, τ, DD, sr, h, o⟩ => ?_
  refine ⟨S, τ, _, sr, h, fun H1 vs g ds a r ⟨q1, q2, q3⟩ => ⟨?_, fun y hy => ?_⟩⟩
  · rw [r.len, q1]; exact hps
  · rw [List.append_nil]
    exact raise_core (sr.aft a) r q1 q2 o hm q3 hy
end
end DL
/-! LT1: a try with several clauses, each with a name for the error; defs called in a suite. -/
namespace LT
open PySem PySem.Spec PyProof.Rows L2
abbrev SuiteT := Addr → Value → Option Addr → TS
/-- clauses, each 'except x as n' -/
inductive Cls_ (X : Cx) (n : Str) : List ExceptHandler → List (Value × SuiteT) → Prop
  | none : Cls_ X n [] []
  | more {x : Str} {c : Value} {tc : SuiteT} {st : Stmt} {sts : List Stmt} {p1 p2 : Pos} {hs : List ExceptHandler} {cs : List (Value × SuiteT)}
      (nc : Names X x c)
      (su : ∀ (u : Addr) (ou : Obj) (cl : Value) (dx : Option Addr) (ps : List (Addr × Obj)), Zc cl dx ou → (∃ fs, ou.data = .fields fs) → PSs (X.suite u ((u, ou) :: ps)) (st :: sts) (tc u cl dx))
      (more : Cls_ X n hs cs) : Cls_ X n (.ExceptHandler (some (.Name x p1)) (some n) (st :: sts) p2 :: hs) ((c, tc) :: cs)
/-- the ends of a suite: the name goes -/
def offE (i : Nat) (D : Ends) : Ends := { nx := fun τ G => D.nx (τ.set i none) G, bk := fun τ G => D.bk (τ.set i none) G, ct := fun τ G => D.ct (τ.set i none) G, rt := D.rt }
/-- what the clauses wish of an error -/
def wishes (K : PySem.W.Frag) (i : Nat) (Wo : WX) (D : Ends) : List (Value × SuiteT) → WX
  | [] => Wo
  | (c, tc) :: cs => fun cl dx τ G => ∃ yes : Bool, PySem.W.exmOne K cl c = some yes ∧ (yes = true → ∀ u, G u = none → tc u cl dx (offE i D) (τ.set i (some (.ref u))) G) ∧ (yes = false → wishes K i Wo D cs cl dx τ G)
section
variable {X : Cx} {n : Str} {i : Nat} {body : List Stmt} {h1 : ExceptHandler} {hs : List ExceptHandler} {cs : List (Value × SuiteT)} {pos : Pos} {tb : WX → TS} {Wo : WX}
theorem ps_tryN (eS : X.stack = X.env :: X.outer) (eF : X.env.frame = some X.env.locals) (nd : X.N.Nodup) (ni : X.N[i]? = some n) (nl : X.env.kindOf n = some .local) (tk : Takes X Wo)
    (hb : ∀ (W : WX) (pn : List (Addr × Obj)) (xe : Value → Shared → Prop), Takes (X.tr pn xe) W → PassesOwn (model X.prog X.w) X.A X.env xe → PSs (X.tr pn xe) body (tb W))
    (hc : Cls_ X n (h1 :: hs) cs) : PS X (.Try body (h1 :: hs) [] [] pos) (fun D τ G => tb (wishes X.K i Wo D cs) D τ G) := by
  constructor
  intro pins s σ H D I h
  have okX := I.ok
  have frX : X.A.frames = some (X.env :: X.outer) := by rw [okX.frames, eS]
  have nloc : Loc X.env.scope n := Or.inl nl
  apply wpAny_Try_except
  let xe1 : Value → Shared → Prop := fun e sa => wpAny (model X.prog X.w) X.A (noteFrame e X.env) (fun _ sb => wpAny (model X.prog X.w) X.A (setFlight e none) (fun _ sc => wpAny (model X.prog X.w) X.A (handleBy e X.env (h1 :: hs)) (SP X pins D) X.xe sc) X.xe sb) X.xe sa
  have takes : Takes (X.tr (X.pn ++ pins) xe1) (wishes X.K i Wo D cs) := by
    rintro _ s1 ⟨u, B, s0, pins1, σ1, H1, cl, dx, rfl, J1, keepB, upS, skyS, nu, osS, bareS, w⟩
    have J0 : Inv X pins σ1 H1 s0 := J1.ofTry okX
    have sky1 : Sky B (X.env :: X.outer) u (Zc cl dx) X.env.locals s1.heap := by rw [← eS]; exact skyS
    show wpAny (model X.prog X.w) X.A (noteFrame (.ref u) X.env) _ _ s1
    refine Sky.land Zc.steady frX eF sky1 (fun hp fly up1 => ?_)
    have J2 : Inv X pins σ1 H1 { s1 with heap := hp } := J0.landed keepB fly.1 (upS.trans up1) osS bareS
    obtain ⟨ou, fs, gu, zu, du⟩ := fly.there
    have offFr : u ∉ frs (X.env :: X.outer) := by
      intro m
      obtain ⟨_, od, ed, notF⟩ := fly.2.2.1.mem m
      have : od = ou := by rw [gu] at ed; exact (Option.some.inj ed).symm
      subst this
      exact notF _ du
    have n1 : u ≠ X.env.locals := by
      intro z
      refine offFr (List.mem_filterMap.mpr ⟨X.env, List.mem_cons_self, ?_⟩)
      rw [eF, z]
    have n2 : u ∉ X.fs := by
      intro m
      obtain ⟨en, me, qe⟩ := List.mem_filterMap.mp m
      exact offFr (List.mem_filterMap.mpr ⟨en, List.mem_cons_of_mem _ me, qe⟩)
    have J3 := J2.suite gu du nu n1 n2
    -- clause by clause
    have each : ∀ {hs' : List ExceptHandler} {cs' : List (Value × SuiteT)}, Cls_ X n hs' cs' → wishes X.K i Wo D cs' cl dx σ1 H1 → wpAny (model X.prog X.w) X.A (handleBy (.ref u) X.env hs') (SP X pins D) X.xe { s1 with heap := hp } := by
      intro hs' cs' k
      induction k with
      | none =>
        intro w
        refine wpAny_handleBy_nil ?_
        obtain ⟨f1, f2, f3, ob, vs, TT, oTT, tts, g1, g2, g3, g4, g5⟩ := id fly
        unfold PySem.passOn
        refine wpAny_bind (wpAny_field g1 g3 g4 ?_)
        rw [if_neg (by simp : ¬ ((Value.ref TT == Value.none) = true))]
        have on : wpAny (model X.prog X.w) X.A (setFlight (.ref u) X.env.frame) (fun _ sd => wpAny (model X.prog X.w) X.A (throw (.ref u) : Sem Flow) (SP X pins D) X.xe sd) X.xe { s1 with heap := hp } := by
          rw [eF]
          refine HandSPX.setFlight_upZ fly (fun hq held up2 => wpAny_throw (tk _ _ ?_))
          refine ⟨u, B, s0, pins, σ1, H1, cl, dx, rfl, J0, keepB, (upS.trans up1).trans up2, ?_, nu, osS, bareS, w⟩
          rw [eS]
          exact Or.inr (Or.inr held)
        first
          | exact wpAny_bind (wpAny_pure (wpAny_bind on))
          | exact wpAny_bind on
      | @more x c tc st sts p1 p2 hs2 cs2 nc su mo ih =>
        intro w
        obtain ⟨yes, e1, wy, wn⟩ := w
        refine wpAny_handleBy_cons (codeAny_handlers_test ?_) (by intro z; cases z)
        have LT : PySem.W.Looks (model X.prog X.w) hp (typeOf (.ref u)) cl := fun A Q E sa ka qa => wpAny_typeOf_ref (ka _ _ gu) (by rw [zu.1]; exact qa)
        have LM := PySem.W.exm_one (M := model X.prog X.w) J2.kIn LT e1
        have named : ∀ {Q : Value → Shared → Prop} {E : Value → Shared → Prop}, Q c { s1 with heap := hp } → wpAny (model X.prog X.w) (X.A.mark (some (.ref u))) (eval (.Name x p1) X.env) Q E { s1 with heap := hp } := by
          intro Q E q
          obtain ⟨gx, dbx, bx | ⟨bx, vx, nx⟩⟩ := nc
          · exact ld_glob (X := X.suite u ((u, ou) :: (X.pn ++ pins))) J3 gx bx q dbx
          · exact ld_blt (X := X.suite u ((u, ou) :: (X.pn ++ pins))) J3 gx bx vx q nx dbx
        refine named (LM.here ?_)
        cases yes with
        | false =>
          show wpAny _ X.A (handleBy (.ref u) X.env hs2) _ _ _
          exact ih (wn rfl)
        | true =>
          refine codeAny_handlers_suite_as ?_
          refine HandSPX.lands_againZ fly (fun hq fly2 up2 => ?_)
          have J4 : Inv X pins σ1 H1 { s1 with heap := hq } := J0.landed keepB fly2.1 ((upS.trans up1).trans up2) osS bareS
          obtain ⟨ou2, fs2, gu2, zu2, du2⟩ := fly2.there
          have J5 := J4.suite gu2 du2 nu n1 n2
          refine store_ok (X := X.suite u ((u, ou2) :: (X.pn ++ pins))) (v := .ref u) J5 nd ni nloc rfl (fun s5 J6 => ?_) (Or.inr nl)
          refine wpAny_mono ((su u ou2 cl dx (X.pn ++ pins) zu2 ⟨_, du2⟩).run [] s5 _ H1 _ J6 (wy rfl u nu)) (fun fl s6 out => ?_) (fun _ _ z => z.elim)
          have over : ∀ {σ6 : L2.St} {H6 : Hp} {Q : Shared → Prop}, Inv (X.suite u ((u, ou2) :: (X.pn ++ pins))) [] σ6 H6 s6 → (∀ s7, Inv X pins (σ6.set i none) H6 s7 → Q s7) → wpAny (model X.prog X.w) X.A (do bindName X.env n .none; unbindBehindTheSuite X.env n p2) (fun _ s7 => Q s7) X.xe s6 :=
            fun {σ6 H6 Q} J q => gone_ok (J.unsuite okX) nd ni nl q
          cases fl with
          | ret r =>
            obtain ⟨v6, σ6, H6, J7, r6, q6⟩ := out
            exact over J7 (fun s7 J8 => ⟨v6, _, H6, J8, r6, q6⟩)
          | next =>
            obtain ⟨σ6, H6, J7, q6⟩ := out
            exact over J7 (fun s7 J8 => ⟨_, H6, J8, q6⟩)
          | brk =>
            obtain ⟨σ6, H6, J7, q6⟩ := out
            exact over J7 (fun s7 J8 => ⟨_, H6, J8, q6⟩)
          | cont =>
            obtain ⟨σ6, H6, J7, q6⟩ := out
            exact over J7 (fun s7 J8 => ⟨_, H6, J8, q6⟩)
    exact each hc w
  refine wpAny_mono ((hb (wishes X.K i Wo D cs) (X.pn ++ pins) xe1 takes PassesOwn.looking).run [] s σ H D (I.toTry _) h) (fun fl s1 out => ?_) (fun e s1 he => he)
  cases fl with
  | next =>
    obtain ⟨σ1, H1, J1, q⟩ := out
    exact wpAny_execs_nil ⟨σ1, H1, J1.ofTry okX, q⟩
  | ret r =>
    obtain ⟨v, σ1, H1, J1, rv, q⟩ := out
    exact ⟨v, σ1, H1, J1.ofTry okX, rv, q⟩
  | brk =>
    obtain ⟨σ1, H1, J1, q⟩ := out
    exact ⟨σ1, H1, J1.ofTry okX, q⟩
  | cont =>
    obtain ⟨σ1, H1, J1, q⟩ := out
    exact ⟨σ1, H1, J1.ofTry okX, q⟩
end
end LT
/-! LT2: defs called while an error is handled (they raise nothing); a handled error's fields. -/
namespace LT
open PySem PySem.Spec PyProof.Rows L2 HotX L2H
/-- what a def promises that is called in a suite; q: the handled error, its object -/
structure FnP (P : Program) (w : World) (K : PySem.W.Frag) (mg : Str → Option Value) (base : Heap) (k : Nat) (f : Addr) (fd : FuncData) (ps : List Str) (sp : Addr × Obj → Sp) : Prop where
  len : ∀ q vs H Q E, sp q vs H Q E → vs.length = ps.length
  run : ∀ (A : Around) (outer : List Env) (s : Shared) (H : Hp) (args : Args) (us : List Value) (vs : List V) (Q : VK) (E : XK) (q : Addr × Obj), RoomH k A → PinOk outer H s q → Env0 P w K mg base A outer s H → BindsTo s fd args (ps.zip us) → Vals vs us → sp q vs H Q E →
    codeAny (model P w) A (.call (.ref f) args) (CR C8.CX0 outer P w H s Q E) s
theorem fnP_of {P : Program} {w : World} {K : PySem.W.Frag} {mg : Str → Option Value} {base : Heap} {k : Nat} {f : Addr} {x qual : Str} {params : Arguments} {body : List Stmt} {scope : Scope} {fd : FuncData} {N ps : List Str} {sp : Addr × Obj → Sp}
    (F : FunD K x qual params body scope [] [] f fd) (S : FnScope N ps scope) (len : ∀ q vs H Q E, sp q vs H Q E → vs.length = ps.length)
    (hb : ∀ (cdv : Value) (A : Around) (outer : List Env) (s : Shared) (H : Hp) (vs : List V) (Q : VK) (E : XK) (q : Addr × Obj), RoomH k (A.deeper (envOfC qual scope s.heap.objs.size f cdv)) → sp q vs H Q E →
      ∃ t, PSs (cxH C8.CX0 P w K mg base N qual scope f cdv A outer s H E q) body t ∧ t { nx := fun _ H' => Q .non H', rt := Q } (L2.start N vs) H) : FnP P w K mg base (k + 1) f fd ps sp := by
  refine ⟨len, ?_⟩
  intro A outer s H args us vs Q E q hr pin e0 bind rel h
  obtain ⟨oc, od, dV, kV, doc, pm, an, cdv, ct, osl, rfl, lk, code, _, _⟩ := F.ex
  have ln := len q vs H Q E h
  have inS : K.In s.heap := e0.mod.kin.keeps (fun b o e => (e0.bs b o e).1)
  have noL : s.heap.NoLimit := e0.mod.nolimit.keeps (fun b o e => (e0.bs b o e).1)
  have kinds : ∀ y ∈ ps.zip us, scope.names.lookup y.1 = some .local ∨ (scope.names.lookup y.1 = some .cell ∧ ((cellsFrom (s.heap.objs.size + 1) scope.names []).lookup y.1).isSome = true) := by
    rintro ⟨n, v⟩ hy
    rcases S.par n (List.of_mem_zip hy).1 with z | z
    · exact Or.inl z
    · exact Or.inr ⟨z, PySem.W.cellsFrom_some _ _ _ (Or.inl z)⟩
  refine codeAny_call_function hr.depth (inS _ _ lk) rfl S.co S.gen rfl (PySem.W.codeRec_of inS code) (bind _ _ _ _ ?_)
  refine wpAny_newFunctionEnv_cells S.kind kinds (fun env he s1 inCall => ?_)
  subst he
  refine ⟨noL.keeps inCall.toInCall.keep, codeAny_func ?_⟩
  obtain ⟨t, dt, ht⟩ := hb cdv A outer s H vs Q E q (hr.deeper _) h
  have J : Inv (cxH C8.CX0 P w K mg base N qual scope f cdv A outer s H E q) [] (L2.start N vs) H s1 := inv_startH S pin e0 ln rel inCall
  refine wpAny_mono (dt.run [] s1 (L2.start N vs) H _ J ht) (fun fl s2 out => ?_) (fun e s2 out => out)
  have done : ∀ {σ' : L2.St} {H' : Hp} {v : V} {u : Value}, Inv (cxH C8.CX0 P w K mg base N qual scope f cdv A outer s H E q) [] σ' H' s2 → RelV v u → Q v H' → CE outer P w H s Q u s2 :=
    fun {σ' H' v u} J2 rv qv => ⟨v, H', J2.os, J2.bare, J2.base, J2.hok, rv, qv⟩
  cases fl with
  | next =>
    obtain ⟨σ', H', J2, qv⟩ := out
    exact done (u := Value.none) (v := V.non) J2 rfl qv
  | ret u =>
    obtain ⟨v, σ', H', J2, rv, qv⟩ := out
    exact done J2 rv qv
  | brk => exact out.choose_spec.choose_spec.2.elim
  | cont => exact out.choose_spec.choose_spec.2.elim
section
variable {X : Cx} {k : Nat} {f : Addr} {fd : FuncData} {ps : List Str} {sp : Addr × Obj → Sp} {x : Str} {p pos : Pos} {e : Expr} {es : List Expr} {t : TA} {q : Addr × Obj}
/-- f(..) in a suite -/
theorem pe_callP (F : FnP X.prog X.w X.K X.mg X.base k f fd ps sp) (hr : RoomH k X.A) (hq : q ∈ X.pn) (hg : Gl X x) (hm : X.mg x = some (.ref f)) (hk : PySem.W.keepIn X.K (.ref f) = true) (hb : Binds X.K fd ps [])
    (ha : PA X (e :: es) t) (hdb : (x == ("__debug__" : Str)) = false := by decide) (he : starEach (e :: es) X.env = (false, eval e X.env) :: starEach es X.env := by rfl) (hpl : (backTo pos (starEach es X.env)).any (·.1) = false := by rfl) :
    PE X (.Call (.Name x p) (e :: es) [] pos) (fun σ H Q => t σ H fun vs H1 => sp q vs H1 Q fun _ _ _ => True) := by
  constructor
  intro pins s σ H Q I h
  refine wpAny_Call_Name_kw (ld_glob I hg hm ?_ hdb)
  refine PySem.W.callWith_K (h₀ := X.base) I.ok.mod.kin hk (thn (ha.run pos pins s σ H _ I h) (fun us s1 ⟨vs, H1, J, rel, hsp⟩ => ⟨J.kIn, ?_⟩)) he hpl
  have ln : us.length = ps.length := rel.length.symm.trans (F.len _ _ _ _ _ hsp)
  have bd := hb s1 us J.kIn (by rw [List.append_nil]; exact ln)
  rw [List.append_nil] at bd
  have pinX := J.pin q (List.mem_append_left _ hq)
  have pin : PinOk X.stack H1 s1 q := ⟨pinX.1, pinX.2.1, fun hm => (List.mem_cons.mp (J.stkSub q.1 hm)).elim pinX.2.2.1 pinX.2.2.2.1, pinX.2.2.2.2⟩
  refine wpAny_call (codeAny_mono (F.run X.A X.stack s1 H1 ⟨us, []⟩ us vs Q _ q hr pin J.env0 bd rel hsp) (fun r s2 out => ?_))
  cases r with
  | error er => exact (show False from out).elim
  | ok fl =>
    cases fl with
    | ret u => exact J.after out
    | next => exact (show False from out).elim
    | brk => exact (show False from out).elim
    | cont => exact (show False from out).elim
/-- e.n of a handled error -/
theorem pe_field {C : Addr} {n : Str} {te : TE} (TX : XfC X.K C) (none_ : PySem.W.findIn X.K (.ref C) n = some none) (hq : q ∈ X.pn) {dx : Addr} (hz : Zc (.ref C) (some dx) q.2) (hf : ∃ fs, q.2.data = .fields fs) (he : PE X e te) (hb : attributeBase e n X.env (eval e X.env) = eval e X.env := by rfl) :
    PE X (.Attribute e n pos) (fun σ H Q => te σ H fun y H1 => y = .ref q.1 ∧ ∃ (fs : List (Str × V)) (v : V), H1 dx = some (.xd fs) ∧ fs.lookup n = some v ∧ Q v H1) := by
  constructor
  intro pins s σ H Q I h
  refine attr_of hb (thn (he.run pins s σ H _ I h) (fun u s1 out => ?_))
  obtain ⟨y, H1, J, rel, ey, fs, v, hd, hl, hq2⟩ := out
  subst ey
  have eu : u = Value.ref q.1 := rel
  subst eu
  have pinX := J.pin q (List.mem_append_left _ hq)
  obtain ⟨vs, ed⟩ := hf
  obtain ⟨mA, ns, lr⟩ : ObjOk X.prog X.w H1 s1.heap dx (.xd fs) := J.hok dx _ hd
  obtain ⟨od, o1, o2⟩ := lookIn_ns ns
  obtain ⟨uv, hu, ru⟩ := RelO.some_of (v := v) (o := mA n) (by rw [← hl]; exact lr n)
  have inst : PySem.W.InstAt s1.heap q.1 q.2 C (some od) := ⟨pinX.1, hz.1, (by unfold PySem.W.notCls; rw [ed] <;> rfl), (by rw [hz.2]; exact o1)⟩
  exact HandSPX.exc_get J.kIn inst TX.ga TX.gg TX.exC (PySem.W.findObj_own TX.hdC none_ rfl (by rw [o2, hu])) (handed_of ru) ⟨v, H1, J.tok _, ru, hq2⟩
end
end LT
/-! DX3: the fields of handled errors; what a law is told of them. Printed by mkDX3.py. -/
namespace DL
open PySem PySem.Spec PyProof.Rows L2
/-- an error that a raise of the program has made -/
def okEr (er : Er) : Prop := ∃ ps ds, (er.c, ps) ∈ errTab ∧ ds.length = ps.length ∧ immAll ds = true ∧ er = mkEr er.c ps ds
/-- the field that is told -/
def fieldD (er : Er) : D := match er.fs with
  | [(_, b), (_, a), _] => .tup [a, b]
  | [(_, a), _] => a
  | _ => .non
@[simp] theorem fieldD_0 (x : Str) : fieldD (mkEr x [] []) = .non := rfl
@[simp] theorem fieldD_1 (x p : Str) (d : D) : fieldD (mkEr x [p] [d]) = d := rfl
@[simp] theorem fieldD_2 (x p q : Str) (a b : D) : fieldD (mkEr x [p, q] [a, b]) = .tup [a, b] := rfl
@[simp] theorem mkEr_c (x : Str) (ps : List Str) (ds : List D) : (mkEr x ps ds).c = x := rfl
theorem okEr_1 {x p : Str} {d : D} (hd : d.imm = true) (h : (x, [p]) ∈ errTab := by simp [errTab]) : okEr (mkEr x [p] [d]) := ⟨[p], [d], h, rfl, by simp [hd], rfl⟩
/-- the classes of the errors -/
structure ErrK (K : PySem.W.Frag) (mg : Str → Option Value) (CS : Addr) : Prop where
  sup : mg "SpanError" = some (.ref CS)
  cl : ∀ x ps C, (x, ps) ∈ errTab → mg x = some (.ref C) → XfC K C ∧ (∀ n ∈ errNames, PySem.W.findIn K (.ref C) n = some none) ∧ PySem.W.exmOne K (.ref C) (.ref CS) = some true
/-! ### x in (..): scalars in a tuple or list -/
@[simp] def scV : D → Option V
  | .non => some .non
  | .bl b => some (.bl b)
  | .int i => some (.int i)
  | .str x => some (.str x)
  | _ => none
@[simp] def scs : List D → Option (List V)
  | [] => some []
  | d :: ds => match scV d with
    | some v => match scs ds with
      | some vs => some (v :: vs)
      | none => none
    | none => none
@[simp] def fInF : DF2 := fun _ d _ d' Q => match elems d' with
  | some ds => match scV d with
    | some v => match scs ds with
      | some vs => Q (.v 2 (.bl (L2.inV v vs)))
      | none => False
    | none => False
  | none => False
@[simp] theorem inV_nil (x : V) : L2.inV x [] = false := rfl
@[simp] theorem inV_str (x y : Str) (r : List V) : L2.inV (.str x) (.str y :: r) = ((y == x) || L2.inV (.str x) r) := rfl
@[simp] theorem inV_int (x y : Int) (r : List V) : L2.inV (.int x) (.int y :: r) = ((y == x) || L2.inV (.int x) r) := rfl
theorem scV_rep {K : PySem.W.Frag} {T : Tab} {B : Option Addr} {M : Addr → Prop} {H : Hp} {d : D} {v u : V} (h : scV d = some v) (r : Rep K T B M H d u) : u = v ∧ flatV v = true := by
  cases d <;> simp at h <;> subst h <;> exact ⟨r, rfl⟩
theorem scs_rep {K : PySem.W.Frag} {T : Tab} {B : Option Addr} {M : Addr → Prop} {H : Hp} : ∀ {ds : List D} {vs us : List V}, scs ds = some vs → Reps K T B M H ds us → us = vs ∧ vs.all flatV = true
  | [], vs, us, h, r => by
    simp at h
    subst h
    exact ⟨r, rfl⟩
  | d :: ds, vs, us, h, ⟨v, r, e, h1, h2⟩ => by
    subst e
    unfold scs at h
    split at h
    · rename_i w hw
      split at h
      · rename_i ws hws
        cases h
        obtain ⟨rfl, f1⟩ := scV_rep hw h1
        obtain ⟨rfl, f2⟩ := scs_rep hws h2
        exact ⟨rfl, by rw [List.all_cons, f1, f2]; rfl⟩
      · cases h
    · cases h
theorem r2_inF {K : PySem.W.Frag} {T : Tab} : R2D K T (L2.rIn K false) fInF := by
  intro S τ σ H g d g' d' v u QD Q sr r1 r2 q k
  unfold fInF at q
  split at q
  · rename_i ds hd
    split at q
    · rename_i x hx
      split at q
      · rename_i xs hxs
        obtain ⟨p, vs, rfl, hq, rs⟩ := Rep.el r2 hd
        obtain ⟨rfl, f1⟩ := scV_rep hx r1
        obtain ⟨rfl, f2⟩ := scs_rep hxs rs
        exact ⟨p, _, rfl, hq, f1, f2, k H (.bl (L2.inV _ _)) (.v 2 (.bl (L2.inV _ _))) sr.same rfl q⟩
      · exact q.elim
    · exact q.elim
  · exact q.elim
/-! ### e.n of a handled error -/
@[simp] def dXf (u dx : Addr) (n : Str) (te : DTE) : DTE := fun τ Q => te τ fun s => match s.d with
  | .exn u' dx' ns ds => (u' = u ∧ dx' = dx) ∧ match (ns.zip ds).lookup n with
    | some d => Q (.v (up s.g d) d)
    | none => False
  | _ => False
theorem look_reps {K : PySem.W.Frag} {T : Tab} {B : Option Addr} {M : Addr → Prop} {H : Hp} {n : Str} {d : D} : ∀ {ns : List Str} {ds : List D} {vs : List V}, Reps K T B M H ds vs → (ns.zip ds).lookup n = some d → ∃ v, (ns.zip vs).lookup n = some v ∧ Rep K T B M H d v
  | [], _, _, _, e => by simp at e
  | _ :: _, [], _, _, e => by simp at e
  | m :: ns, x :: ds, _, ⟨v, r, e, h1, h2⟩, q => by
    subst e
    rw [List.zip_cons_cons, List.lookup_cons] at q ⊢
    by_cases hm : (n == m) = true
    · rw [hm] at q ⊢
      cases q
      exact ⟨v, rfl, h1⟩
    · rw [Bool.not_eq_true] at hm
      rw [hm] at q ⊢
      exact look_reps h2 q
theorem de_xf {X : Cx} {T : Tab} {C u dx : Addr} {ou : Obj} {n : Str} {e : Expr} {te : DTE} {pos : Pos} (TX : XfC X.K C) (none_ : PySem.W.findIn X.K (.ref C) n = some none) (hq : (u, ou) ∈ X.pn) (hz : Zc (.ref C) (some dx) ou) (hf : ∃ fs, ou.data = .fields fs) (he : PE X e (UpE X.K T te))
    (hb : attributeBase e n X.env (eval e X.env) = eval e X.env := by rfl) : PE X (.Attribute e n pos) (UpE X.K T (dXf u dx n te)) :=
  (LT.pe_field TX none_ hq hz hf he hb).of fun σ H Q ⟨S, τ, QD, sr, h, k⟩ => ⟨S, τ, _, sr, h, fun H1 v sl a r q1 => by
    have rg := r.g sr
    cases sd : sl.d with
    | exn u' dx' ns ds =>
      rw [sd] at q1 rg
      obtain ⟨⟨rfl, rfl⟩, q1⟩ := q1
      obtain ⟨vs, rfl, hd, m, rs⟩ := id rg
      cases el : (ns.zip ds).lookup n with
      | none => rw [el] at q1; exact q1.elim
      | some d =>
        rw [el] at q1
        obtain ⟨w, e1, e2⟩ := look_reps rs el
        exact ⟨rfl, _, w, hd, e1, k H1 w (.v (up sl.g d) d) a (RepG.up e2) q1⟩
    | _ => rw [sd] at q1; exact q1.elim⟩
/-! ### _law_field -/
def tField (u dx : Addr) : DTS := (dSeq (dIf (tV (dOp fInF (dXf u dx "word" (dVar 0)) (dTup (aCons (dK (.str "BadRow")) (aCons (dK (.str "BadCount")) aNil))))) (dRet (dXf u dx "number" (dVar 0))) dNext) (dSeq (dIf (tV (dOp fInF (dXf u dx "word" (dVar 0)) (dTup (aCons (dK (.str "BadPieces")) (aCons (dK (.str "BadCommand")) (aCons (dK (.str "BadDeed")) (aCons (dK (.str "BadText")) aNil))))))) (dRet (dXf u dx "at" (dVar 0))) dNext) (dSeq (dIf (tV (dOp fInF (dXf u dx "word" (dVar 0)) (dTup (aCons (dK (.str "BadName")) (aCons (dK (.str "Taken")) aNil))))) (dRet (dXf u dx "name" (dVar 0))) dNext) (dSeq (dIf (tV (dOp fInF (dXf u dx "word" (dVar 0)) (dTup (aCons (dK (.str "Gone")) (aCons (dK (.str "Ring")) aNil))))) (dRet (dXf u dx "cell" (dVar 0))) dNext) (dSeq (dIf (tV (dOp fInF (dXf u dx "word" (dVar 0)) (dTup (aCons (dK (.str "TooManyPieces")) (aCons (dK (.str "Full")) aNil))))) (dRet (dXf u dx "most" (dVar 0))) dNext) (dRet (dIfE (tV (dOp fEq (dXf u dx "word" (dVar 0)) (dK (.str "Clash")))) (dTup (aCons (dXf u dx "label" (dVar 0)) (aCons (dXf u dx "other" (dVar 0)) aNil))) (dK .non))))))))
abbrev bField (p1 p2 p3 p4 p5 p6 p7 p8 p9 p10 p11 p12 p13 p14 p15 p16 p17 p18 p19 p20 p21 p22 p23 p24 p25 p26 p27 p28 p29 p30 p31 p32 p33 p34 p35 p36 p37 p38 p39 p40 p41 p42 p43 p44 p45 p46 p47 p48 p49 p50 p51 p52 p53 p54 p55 p56 p57 p58 p59 p60 p61 p62 p63 p64 : Pos) (j1 j2 j3 j4 j5 j6 j7 j8 j9 j10 j11 j12 j13 j14 j15 j16 j17 j18 j19 j20 : Nat) : List Stmt := [.If (.Compare (.Attribute (.Name "_law_e" p1) "word" p2) [.In] [(.Tuple [(.Constant (.str "BadRow") j1 p3), (.Constant (.str "BadCount") j2 p4)] j3 p5)] p8) [.Return (some (.Attribute (.Name "_law_e" p6) "number" p7)) p9] [] p10, .If (.Compare (.Attribute (.Name "_law_e" p11) "word" p12) [.In] [(.Tuple [(.Constant (.str "BadPieces") j4 p13), (.Constant (.str "BadCommand") j5 p14), (.Constant (.str "BadDeed") j6 p15), (.Constant (.str "BadText") j7 p16)] j8 p17)] p20) [.Return (some (.Attribute (.Name "_law_e" p18) "at" p19)) p21] [] p22, .If (.Compare (.Attribute (.Name "_law_e" p23) "word" p24) [.In] [(.Tuple [(.Constant (.str "BadName") j9 p25), (.Constant (.str "Taken") j10 p26)] j11 p27)] p30) [.Return (some (.Attribute (.Name "_law_e" p28) "name" p29)) p31] [] p32, .If (.Compare (.Attribute (.Name "_law_e" p33) "word" p34) [.In] [(.Tuple [(.Constant (.str "Gone") j12 p35), (.Constant (.str "Ring") j13 p36)] j14 p37)] p40) [.Return (some (.Attribute (.Name "_law_e" p38) "cell" p39)) p41] [] p42, .If (.Compare (.Attribute (.Name "_law_e" p43) "word" p44) [.In] [(.Tuple [(.Constant (.str "TooManyPieces") j15 p45), (.Constant (.str "Full") j16 p46)] j17 p47)] p50) [.Return (some (.Attribute (.Name "_law_e" p48) "most" p49)) p51] [] p52, .Return (some (.IfExp (.Compare (.Attribute (.Name "_law_e" p53) "word" p54) [.Eq] [(.Constant (.str "Clash") j18 p55)] p61) (.Tuple [(.Attribute (.Name "_law_e" p56) "label" p57), (.Attribute (.Name "_law_e" p58) "other" p59)] j19 p60) (.Constant .none j20 p62) p63)) p64]
theorem field_walk {X : Cx} {T : Tab} {ek : EK} {C u dx : Addr} {ou : Obj} {p1 p2 p3 p4 p5 p6 p7 p8 p9 p10 p11 p12 p13 p14 p15 p16 p17 p18 p19 p20 p21 p22 p23 p24 p25 p26 p27 p28 p29 p30 p31 p32 p33 p34 p35 p36 p37 p38 p39 p40 p41 p42 p43 p44 p45 p46 p47 p48 p49 p50 p51 p52 p53 p54 p55 p56 p57 p58 p59 p60 p61 p62 p63 p64 : Pos} {j1 j2 j3 j4 j5 j6 j7 j8 j9 j10 j11 j12 j13 j14 j15 j16 j17 j18 j19 j20 : Nat} (TX : XfC X.K C) (h0 : ∀ n ∈ errNames, PySem.W.findIn X.K (.ref C) n = some none) (hq : (u, ou) ∈ X.pn) (hz : Zc (.ref C) (some dx) ou) (hf : ∃ fs, ou.data = .fields fs)
    (hN : X.N[0]? = some ("_law_e" : Str)) (v0 : Vis X.env.scope "_law_e") (hu : X.A.units + 65 < cLine) (hu4 : X.A.units + 64 < cLine) : PSs X (bField p1 p2 p3 p4 p5 p6 p7 p8 p9 p10 p11 p12 p13 p14 p15 p16 p17 p18 p19 p20 p21 p22 p23 p24 p25 p26 p27 p28 p29 p30 p31 p32 p33 p34 p35 p36 p37 p38 p39 p40 p41 p42 p43 p44 p45 p46 p47 p48 p49 p50 p51 p52 p53 p54 p55 p56 p57 p58 p59 p60 p61 p62 p63 p64 j1 j2 j3 j4 j5 j6 j7 j8 j9 j10 j11 j12 j13 j14 j15 j16 j17 j18 j19 j20) (UpS X.K T ek (tField u dx)) :=
  (ds_cons (ds_if (dt_cmp L2.op_in_seq r2_inF (de_xf TX (h0 "word" (by decide)) hq hz hf (de_var (i := 0) hN v0)) (de_tup (da_cons de_str (da_cons de_str da_nil))) rfl) (ds_one (ds_ret (de_xf TX (h0 "number" (by decide)) hq hz hf (de_var (i := 0) hN v0)))) ds_nil) (ds_cons (ds_if (dt_cmp L2.op_in_seq r2_inF (de_xf TX (h0 "word" (by decide)) hq hz hf (de_var (i := 0) hN v0)) (de_tup (da_cons de_str (da_cons de_str (da_cons de_str (da_cons de_str da_nil))))) rfl) (ds_one (ds_ret (de_xf TX (h0 "at" (by decide)) hq hz hf (de_var (i := 0) hN v0)))) ds_nil) (ds_cons (ds_if (dt_cmp L2.op_in_seq r2_inF (de_xf TX (h0 "word" (by decide)) hq hz hf (de_var (i := 0) hN v0)) (de_tup (da_cons de_str (da_cons de_str da_nil))) rfl) (ds_one (ds_ret (de_xf TX (h0 "name" (by decide)) hq hz hf (de_var (i := 0) hN v0)))) ds_nil) (ds_cons (ds_if (dt_cmp L2.op_in_seq r2_inF (de_xf TX (h0 "word" (by decide)) hq hz hf (de_var (i := 0) hN v0)) (de_tup (da_cons de_str (da_cons de_str da_nil))) rfl) (ds_one (ds_ret (de_xf TX (h0 "cell" (by decide)) hq hz hf (de_var (i := 0) hN v0)))) ds_nil) (ds_cons (ds_if (dt_cmp L2.op_in_seq r2_inF (de_xf TX (h0 "word" (by decide)) hq hz hf (de_var (i := 0) hN v0)) (de_tup (da_cons de_str (da_cons de_str da_nil))) rfl) (ds_one (ds_ret (de_xf TX (h0 "most" (by decide)) hq hz hf (de_var (i := 0) hN v0)))) ds_nil) (ds_one (ds_ret (de_ifExp (dt_cmp (op_eqD hu4) r2_eq (de_xf TX (h0 "word" (by decide)) hq hz hf (de_var (i := 0) hN v0)) de_str (nomark _)) (de_tup (da_cons (de_xf TX (h0 "label" (by decide)) hq hz hf (de_var (i := 0) hN v0)) (da_cons (de_xf TX (h0 "other" (by decide)) hq hz hf (de_var (i := 0) hN v0)) da_nil))) de_none))))))))

theorem field_pure {er : Er} (ok : okEr er) {N : List Str} {u dx : Addr} {Q : Sl → Prop} (nx : DSt → Prop) (er' : Er → Prop) (q : Q (.v 2 (fieldD er))) : tField u dx { nx := nx, rt := Q, er := er' } (startD N [.exn u dx (er.fs.map (·.1)) (er.fs.map (·.2))]) := by
  obtain ⟨ps, ds, hm, hl, hi, he⟩ := ok
  obtain ⟨x, fs⟩ := er
  simp only [mkEr, Er.mk.injEq] at he
  obtain ⟨_, rfl⟩ := he
  have u1 : ∀ d : D, d.imm = true → up 1 d = 2 := fun d h => up_g (.inl rfl) h
  simp only [errTab, List.mem_cons, Prod.mk.injEq, List.not_mem_nil, or_false] at hm
  rcases hm with ⟨rfl, rfl⟩ | ⟨rfl, rfl⟩ | ⟨rfl, rfl⟩ | ⟨rfl, rfl⟩ | ⟨rfl, rfl⟩ | ⟨rfl, rfl⟩ | ⟨rfl, rfl⟩ | ⟨rfl, rfl⟩ | ⟨rfl, rfl⟩ | ⟨rfl, rfl⟩ | ⟨rfl, rfl⟩ | ⟨rfl, rfl⟩ | ⟨rfl, rfl⟩ | ⟨rfl, rfl⟩ | ⟨rfl, rfl⟩ | ⟨rfl, rfl⟩
  all_goals first
    | (obtain ⟨a, rfl⟩ := List.length_eq_one_iff.mp hl
       simp at hi
       simp [tField, List.lookup, fieldD, u1 _ hi] at q ⊢
       exact q)
    | (obtain rfl := List.length_eq_zero_iff.mp hl
       simp [tField, List.lookup, fieldD] at q ⊢
       exact q)
    | (obtain ⟨a, b, rfl⟩ : ∃ a b, ds = [a, b] := by
         match ds, hl with
         | [a, b], _ => exact ⟨a, b, rfl⟩
       simp at hi
       simp [tField, List.lookup, fieldD, u1 _ hi.1, u1 _ hi.2] at q ⊢
       exact q)
end DL
/-! DX4: _law_field in a suite; _law_told(lambda: ..). Printed by mkDX4.py. -/
namespace DL
open PySem PySem.Spec PyProof.Rows L2 HotX L2H
/-- a handled error as data -/
abbrev xnD (u dx : Addr) (er : Er) : D := .exn u dx (er.fs.map fun p => p.1) (er.fs.map fun p => p.2)
theorem okEr.imm {er : Er} (h : okEr er) : (fieldD er).imm = true := by
  obtain ⟨ps, ds, hm, hl, hi, he⟩ := h
  obtain ⟨x, fs⟩ := er
  simp only [mkEr, Er.mk.injEq] at he
  obtain ⟨_, rfl⟩ := he
  simp only [errTab, List.mem_cons, Prod.mk.injEq, List.not_mem_nil, or_false] at hm
  rcases hm with ⟨rfl, rfl⟩ | ⟨rfl, rfl⟩ | ⟨rfl, rfl⟩ | ⟨rfl, rfl⟩ | ⟨rfl, rfl⟩ | ⟨rfl, rfl⟩ | ⟨rfl, rfl⟩ | ⟨rfl, rfl⟩ | ⟨rfl, rfl⟩ | ⟨rfl, rfl⟩ | ⟨rfl, rfl⟩ | ⟨rfl, rfl⟩ | ⟨rfl, rfl⟩ | ⟨rfl, rfl⟩ | ⟨rfl, rfl⟩ | ⟨rfl, rfl⟩
  all_goals first
    | (obtain ⟨a, rfl⟩ := List.length_eq_one_iff.mp hl
       simpa [fieldD] using hi)
    | (obtain rfl := List.length_eq_zero_iff.mp hl
       rfl)
    | (obtain ⟨a, r, rfl⟩ := List.exists_cons_of_length_eq_add_one hl
       obtain ⟨b, rfl⟩ := List.length_eq_one_iff.mp (by simpa using hl)
       simpa [fieldD] using hi)
theorem okEr.word {er : Er} (h : okEr er) : ((er.fs.map (·.1)).zip (er.fs.map (·.2))).lookup ("word" : Str) = some (.str er.c) := by
  obtain ⟨ps, ds, hm, hl, hi, he⟩ := h
  obtain ⟨x, fs⟩ := er
  simp only [mkEr, Er.mk.injEq] at he
  obtain ⟨_, rfl⟩ := he
  simp only [errTab, List.mem_cons, Prod.mk.injEq, List.not_mem_nil, or_false] at hm
  rcases hm with ⟨rfl, rfl⟩ | ⟨rfl, rfl⟩ | ⟨rfl, rfl⟩ | ⟨rfl, rfl⟩ | ⟨rfl, rfl⟩ | ⟨rfl, rfl⟩ | ⟨rfl, rfl⟩ | ⟨rfl, rfl⟩ | ⟨rfl, rfl⟩ | ⟨rfl, rfl⟩ | ⟨rfl, rfl⟩ | ⟨rfl, rfl⟩ | ⟨rfl, rfl⟩ | ⟨rfl, rfl⟩ | ⟨rfl, rfl⟩ | ⟨rfl, rfl⟩
  all_goals first
    | (obtain ⟨a, rfl⟩ := List.length_eq_one_iff.mp hl
       simp [List.lookup])
    | (obtain rfl := List.length_eq_zero_iff.mp hl
       simp [List.lookup])
    | (obtain ⟨a, r, rfl⟩ := List.exists_cons_of_length_eq_add_one hl
       obtain ⟨b, rfl⟩ := List.length_eq_one_iff.mp (by simpa using hl)
       simp [List.lookup])
def spField (K : PySem.W.Frag) (T : Tab) (mg : Str → Option Value) : Addr × Obj → Sp := fun q vs H Q _ => ∃ (B : Option Addr) (L : LX) (er : Er) (C dx : Addr), BagOk T B L H ∧ vs = [.ref q.1] ∧ Zc (.ref C) (some dx) q.2 ∧ (∃ fs, q.2.data = .fields fs) ∧ ErR K T mg B H er (.ref C) (some dx) ∧ okEr er ∧
  ∀ H' v, Kp (fun a => B = some a) H H' → BagOk T B L H' → Rep K T B (fun _ => True) H' (fieldD er) v → Q v H'
theorem field_ok {P : Program} {w : World} {K : PySem.W.Frag} {T : Tab} {mg : Str → Option Value} {base : Heap} {k : Nat} {f CS : Addr} {x qual : Str} {params : Arguments} {scope : Scope} {fd : FuncData} {p1 p2 p3 p4 p5 p6 p7 p8 p9 p10 p11 p12 p13 p14 p15 p16 p17 p18 p19 p20 p21 p22 p23 p24 p25 p26 p27 p28 p29 p30 p31 p32 p33 p34 p35 p36 p37 p38 p39 p40 p41 p42 p43 p44 p45 p46 p47 p48 p49 p50 p51 p52 p53 p54 p55 p56 p57 p58 p59 p60 p61 p62 p63 p64 : Pos} {j1 j2 j3 j4 j5 j6 j7 j8 j9 j10 j11 j12 j13 j14 j15 j16 j17 j18 j19 j20 : Nat}
    (F : FunD K x qual params (bField p1 p2 p3 p4 p5 p6 p7 p8 p9 p10 p11 p12 p13 p14 p15 p16 p17 p18 p19 p20 p21 p22 p23 p24 p25 p26 p27 p28 p29 p30 p31 p32 p33 p34 p35 p36 p37 p38 p39 p40 p41 p42 p43 p44 p45 p46 p47 p48 p49 p50 p51 p52 p53 p54 p55 p56 p57 p58 p59 p60 p61 p62 p63 p64 j1 j2 j3 j4 j5 j6 j7 j8 j9 j10 j11 j12 j13 j14 j15 j16 j17 j18 j19 j20) scope [] [] f fd) (S : FnScope ["_law_e"] ["_law_e"] scope) (v0 : Vis scope "_law_e") (CK : ErrK K mg CS) : LT.FnP P w K mg base (k + 1) f fd ["_law_e"] (spField K T mg) := by
  refine LT.fnP_of F S (fun q vs H Q E h => ?_) (fun cdv A outer s H vs Q E q hr h => ?_)
  · obtain ⟨_, _, _, _, _, _, rfl, _⟩ := h
    rfl
  · obtain ⟨B, L, er, C, dx, bag, rfl, hz, hf, eR, ok, kk⟩ := h
    obtain ⟨C', dx', ws, hm, ec, ed, hd, imm, rs⟩ := eR
    cases ec
    cases ed
    obtain ⟨ps, ds, hp, hl, hi, he⟩ := id ok
    obtain ⟨TX, h0, _⟩ := CK.cl _ _ _ hp hm
    have hu := hr.un
    refine ⟨_, field_walk (X := cxH C8.CX0 P w K mg base ["_law_e"] qual scope f cdv A outer s H E q) (T := T) (ek := ⟨mg, E⟩) (u := q.1) (ou := q.2) TX h0 (List.mem_singleton.mpr rfl) hz hf rfl v0
      (show (A.deeper (envOfC qual scope s.heap.objs.size f cdv)).units + 65 < cLine by omega) (show (A.deeper (envOfC qual scope s.heap.objs.size f cdv)).units + 64 < cLine by omega), ?_⟩
    have nb : ¬ B = some dx := fun z => by
      obtain ⟨_, _, _, _, _, _, h1, _⟩ := bag.bg dx z
      rw [hd] at h1
      cases h1
    have r : Reps K T B (fun a => B = some a) H [xnD q.1 dx er] [.ref q.1] := Reps.one ⟨ws, rfl, hd, nb, Reps.imm _ _ imm rs⟩
    have kb : ∀ {H' : Hp}, Kp (fun a => B = some a ∨ False) H H' → Kp (fun a => B = some a) H H' := fun z => z.mono fun _ z => Or.elim z (fun z => z) (fun z => by cases z)
    have sr : SR K T ⟨B, L, fun _ => False, H, fun _ => False, fun a => B = some a, []⟩ (startD ["_law_e"] [xnD q.1 dx er]) (L2.start ["_law_e"] [.ref q.1]) H := sr_start bag (fun a z => z.elim) r
    have o : Out K T ⟨mg, E⟩ ⟨B, L, fun _ => False, H, fun _ => False, fun a => B = some a, []⟩ { nx := fun _ => False, rt := fun sl => sl = .v 2 (fieldD er), er := fun _ => False } { nx := fun _ H' => Q .non H', rt := Q } :=
      ⟨fun _ _ _ _ _ z => z.elim, fun _ _ _ _ _ z => z.elim, fun _ _ _ _ _ z => z.elim, fun H' v sl kp bag' rr q' => by
        subst q'
        exact kk H' v (kb kp) bag' (Rep.imm _ _ ok.imm rr), fun _ _ _ _ _ _ _ _ z => z.elim, fun _ _ _ _ _ _ _ z => z.elim, fun _ _ _ _ _ _ _ _ z => z.elim, fun _ _ _ _ _ _ _ _ _ z => z.elim⟩
    exact ⟨_, _, _, sr, field_pure (Q := fun sl => sl = .v 2 (fieldD er)) ok _ _ rfl, o⟩
/-- such a def -/
structure FldP (P : Program) (w : World) (K : PySem.W.Frag) (T : Tab) (mg : Str → Option Value) (base : Heap) (k : Nat) : Prop where
  ex : ∃ (f : Addr) (fd : FuncData) (ps : List Str), mg "_law_field" = some (.ref f) ∧ PySem.W.keepIn K (.ref f) = true ∧ Binds K fd ps [] ∧ LT.FnP P w K mg base k f fd ps (spField K T mg)
/-! ### the suite of _law_told -/
def tSuite (K : PySem.W.Frag) (T : Tab) (mg : Str → Option Value) (u : Addr) (cl : Value) (d : Option Addr) : TS := fun D σ H => ∃ (B : Option Addr) (L : LX) (er : Er), BagOk T B L H ∧ ErR K T mg B H er cl d ∧ okEr er ∧ (1 < σ.length → σ[1]? = some (some (.ref u))) ∧
  ∀ H' v, Kp (fun a => B = some a) H H' → BagOk T B L H' → Rep K T B (fun _ => True) H' (.tup [.str er.c, fieldD er]) v → D.rt v H'
theorem told_suite {X : Cx} {T : Tab} {k : Nat} {u CS : Addr} {ou : Obj} {cl : Value} {d : Option Addr} {p1 p2 p3 p4 p5 p6 p7 : Pos} {j1 : Nat} (FP : FldP X.prog X.w X.K T X.mg X.base k) (CK : ErrK X.K X.mg CS) (hr : RoomH k X.A) (hq : (u, ou) ∈ X.pn) (hz : Zc cl d ou) (hf : ∃ fs, ou.data = .fields fs)
    (hl : 1 < X.N.length) (hN : X.N[1]? = some ("_law_e" : Str)) (v1 : Vis X.env.scope "_law_e") (hg : Gl X "_law_field") : PSs X [.Return (some (.Tuple [(.Attribute (.Name "_law_e" p1) "word" p2), (.Call (.Name "_law_field" p3) [(.Name "_law_e" p4)] [] p5)] j1 p6)) p7] (tSuite X.K T X.mg u cl d) := by
  constructor
  intro pins s σ H D I h
  obtain ⟨B, L, er, bag, eR, ok, hs, kk⟩ := h
  obtain ⟨C, dx, ws, hm, ec, ed, hd, imm, rs⟩ := id eR
  subst ec ed
  obtain ⟨ps, ds, hp, hl2, hi, he⟩ := id ok
  obtain ⟨TX, h0, _⟩ := CK.cl _ _ _ hp hm
  obtain ⟨f, fd, pp, hm2, hk, hb, FN⟩ := FP.ex
  have hs1 := hs (by rw [I.len]; exact hl)
  obtain ⟨vw, e1, e2⟩ := look_reps rs ok.word
  have e2 : vw = .str er.c := e2
  subst e2
  have dv : PSs X [.Return (some (.Tuple [(.Attribute (.Name "_law_e" p1) "word" p2), (.Call (.Name "_law_field" p3) [(.Name "_law_e" p4)] [] p5)] j1 p6)) p7] _ := pss_one (ps_ret (pe_tup (pa_cons (LT.pe_field TX (h0 "word" (by simp [errNames])) hq hz hf (pe_var (i := 1) hN v1)) (pa_cons (LT.pe_callP FN hr hq hg hm2 hk hb (pa_cons (pe_var (i := 1) hN v1) pa_nil)) pa_nil))))
  refine dv.run pins s σ H D I ?_
  refine ⟨.ref u, hs1, rfl, _, _, hd, e1, .ref u, hs1, B, L, er, C, dx, bag, rfl, hz, hf, eR, ok, fun H1 v kp bag1 rv => ⟨lim_le' (Nat.le_of_ble_eq_true rfl), fun p hn => ?_⟩⟩
  refine kk _ _ (kp.trans (Kp.laid hn)) (bag1.kp0 (Kp.laid hn) (Tk.laid hn)) ⟨p, _, rfl, SqT.of upd_same, .str er.c, [v], rfl, rfl, v, [], rfl, ?_, rfl⟩
  exact Rep.imm _ _ ok.imm (Rep.kp (N := fun _ => False) (Kp.laid hn) (fun _ z => z.elim) _ _ rv)
/-! ### _law_told -/
abbrev bTold (st2 st3 : Stmt) (sts2 sts3 : List Stmt) (p1 p2 p3 p4 p5 p6 p7 p8 p9 p10 p11 p12 p13 p14 p15 p16 p17 p18 p19 : Pos) (j1 j2 j3 : Nat) : List Stmt := [.Try [.Return (some (.Tuple [(.Constant (.str "told") j2 p8), (.Call (.Name "_law_ask" p9) [] [] p10)] j3 p11)) p12] [.ExceptHandler (some (.Name "SpanError" p13)) (some "_law_e") [.Return (some (.Tuple [(.Attribute (.Name "_law_e" p1) "word" p2), (.Call (.Name "_law_field" p3) [(.Name "_law_e" p4)] [] p5)] j1 p6)) p7] p14, .ExceptHandler (some (.Name "NoName" p15)) (some "_law_e") (st2 :: sts2) p16, .ExceptHandler (some (.Name "NothingLeft" p17)) (some "_law_e") (st3 :: sts3) p18] [] [] p19]
def TTd (K : PySem.W.Frag) (T : Tab) (mg : Str → Option Value) : (XK → Hp → VK → Prop) → Hp → VK → Prop := fun tl H Q => ∃ E : XK, tl E H (fun v H1 => [V.str "told", v].length ≤ sizeLine ∧ ∀ p, H1 p = none → Q (.ref p) (upd H1 p (.tup [.str "told", v]))) ∧
  ∀ cl d H1, E cl d H1 → ∃ (B : Option Addr) (L : LX) (er : Er), BagOk T B L H1 ∧ ErR K T mg B H1 er cl d ∧ okEr er ∧ ∀ H' v, Kp (fun a => B = some a) H1 H' → BagOk T B L H' → Rep K T B (fun _ => True) H' (.tup [.str er.c, fieldD er]) v → Q v H'
abbrev NTold : List Str := ["_law_ask", "_law_e"]
theorem told_gives {X : Cx} {T : Tab} {k : Nat} {g CS : Addr} {sg : Scope} {cdg : Value} {x q : Str} {st2 st3 : Stmt} {sts2 sts3 : List Stmt} {p1 p2 p3 p4 p5 p6 p7 p8 p9 p10 p11 p12 p13 p14 p15 p16 p17 p18 p19 : Pos} {j1 j2 j3 : Nat} (FP : FldP X.prog X.w X.K T X.mg X.base k) (CK : ErrK X.K X.mg CS) (CN : ∃ c, X.mg "NoName" = some (.ref c)) (CL : ∃ c, X.mg "NothingLeft" = some (.ref c)) (hr : Room (k + 1) X.A)
    (g1 : sg.names.lookup ("SpanError" : Str) = some .globalImplicit) (g2 : sg.names.lookup ("NoName" : Str) = some .globalImplicit) (g3 : sg.names.lookup ("NothingLeft" : Str) = some .globalImplicit) (g4 : sg.names.lookup ("_law_field" : Str) = some .globalImplicit) (vl : sg.names.lookup ("_law_e" : Str) = some .local) :
    LamX.GivesTo X NTold x sg g cdg (bTold st2 st3 sts2 sts3 p1 p2 p3 p4 p5 p6 p7 p8 p9 p10 p11 p12 p13 p14 p15 p16 p17 p18 p19 j1 j2 j3) "_law_ask" q (TTd X.K T X.mg) := by
  intro f c' s H Q tl act hc h
  obtain ⟨cn, hcn⟩ := CN
  obtain ⟨cl, hcl⟩ := CL
  refine ⟨_, pss_one (LT.ps_tryN (X := (cxOf C8.CX0 X.prog X.w X.K X.mg X.base NTold x sg g cdg X.A X.stack s H C8.E0).nox) (i := 1) (Wo := fun _ _ _ _ => False)
      (tb := fun W D σ H => ∃ E : XK, (∀ cls d σ' H', E cls d H' → W cls d σ' H') ∧ σ[0]? = some (some (.ref f)) ∧ H c' = some (LamX.CodeO c' q) ∧ tl E H fun v H1 => [V.str "told", v].length ≤ sizeLine ∧ ∀ p, H1 p = none → D.rt (.ref p) (upd H1 p (.tup [.str "told", v])))
      (cs := [(.ref CS, fun u cl d => tSuite X.K T X.mg u cl d), (.ref cn, fun _ _ _ => fun _ _ _ => False), (.ref cl, fun _ _ _ => fun _ _ _ => False)])
      rfl rfl (show NTold.Nodup by decide +kernel) rfl vl LamX.takes0 (fun W pn xe tk _ => ?_) ?_), ?_⟩
  · refine ⟨fun pins s' σ H' D I h' => ?_⟩
    obtain ⟨E, hW, h1, h2, h3⟩ := h'
    have hp := act W pn xe E p9 p10 tk hW
    have hq : PSs _ [.Return (some (.Tuple [(.Constant (.str "told") j2 p8), (.Call (.Name "_law_ask" p9) [] [] p10)] j3 p11)) p12] _ := pss_one (ps_ret (pos := p12) (pe_tup (pos := p11) (pa_cons (pe_str (j := j2) (pos := p8)) (pa_cons hp pa_nil))))
    exact hq.run pins s' σ H' D I ⟨h1, h2, h3⟩
  · refine .more ⟨g1, by decide, .inl CK.sup⟩ (fun u ou cl d ps hz hf => ?_) (.more ⟨g2, by decide, .inl hcn⟩ (fun u ou cl d ps hz hf => ⟨fun _ _ _ _ _ _ z => z.elim⟩) (.more ⟨g3, by decide, .inl hcl⟩ (fun u ou cl d ps hz hf => ⟨fun _ _ _ _ _ _ z => z.elim⟩) .none))
    exact told_suite FP CK ⟨(hr.deeper (envOfC x sg s.heap.objs.size g cdg)).dp, (hr.deeper (envOfC x sg s.heap.objs.size g cdg)).un⟩ List.mem_cons_self hz hf (show 1 < NTold.length by decide) rfl (.inl vl) g4
  · obtain ⟨E, h1, h2⟩ := h
    refine ⟨E, fun cls d σ' H' he => ?_, rfl, hc, h1⟩
    obtain ⟨B, L, er, bag, eR, ok, kk⟩ := h2 cls d H' he
    obtain ⟨C, dx, ws, hm, ec, ed, hd, imm, rs⟩ := id eR
    obtain ⟨ps, ds, hp, hl2, hi, he⟩ := id ok
    refine ⟨true, by rw [ec]; exact (CK.cl _ _ _ hp hm).2.2, fun _ u hu => ⟨B, L, er, bag, eR, ok, fun hl => ?_, kk⟩, fun z => by cases z⟩
    rw [List.length_set] at hl
    exact List.getElem?_set_self hl
/-! ### _law_told(lambda: e) -/
@[simp] def dTold (te : DTEx) : DTE := fun τ Q => te τ (fun sl => Q (.v (up sl.g sl.d) (.tup [.str "told", sl.d]))) fun er => okEr er ∧ Q (.v 2 (.tup [.str er.c, fieldD er]))
theorem passes_lam {X : Cx} {A : Around} {outer : List Env} {s : Shared} {H : Hp} {E : XK} {scope : Scope} {f c' : Addr} : Passes (L2.CX (LamX.lamCx X A outer s H E scope f c').prog (LamX.lamCx X A outer s H E scope f c').w) (LamX.lamCx X A outer s H E scope f c') E := by
  have tk : L2.Takes (LamX.lamCx X A outer s H E scope f c') (fun cls d _ H => E cls d H) := L2.takes_of (X := LamX.lamCx X A outer s H E scope f c') rfl rfl rfl rfl
  exact L2.passes_call tk fun _ _ _ _ z => z
theorem extN_aft {K : PySem.W.Frag} {T : Tab} {S : Sit} {τ : DSt} {σ : L2.St} {H H1 : Hp} (sr : SR K T S τ σ H) (e : LamX.ExtN H H1) (t : LamX.Tabs (tabsT T) H1) : Aft K T S H H1 := by
  refine ⟨⟨fun a o h _ n => e a o h n, fun a xs h => e a _ h (fun ps z => by cases z), fun a o u h => e a _ h (fun ps z => by cases z), fun a h => ?_⟩, ⟨fun b hb => ?_, t⟩⟩
  · obtain ⟨o, ho, n⟩ := h.ex
    exact Lv.of (e a o ho n) n
  · obtain ⟨h0, ns, i, x, m, c, h1, h2, h3⟩ := sr.bag.bg b hb
    exact ⟨h0, ns, i, x, m, c, e _ _ h1 (fun ps z => by cases z), e _ _ h2 (fun ps z => by cases z), h3⟩
/-- what a frame that makes lambdas stands on: its code object, its table -/
structure LamT (X : Cx) (T : Tab) : Prop where
  ex : ∃ c P, LamX.TabB X.base X.mg c P ∧ X.env.code = .ref c ∧ (P, X.env.qual ++ "<lambda>") ∈ tabsT T ∧ ∀ p ∈ tabsT T, p.1 = P → p.2 = X.env.qual ++ "<lambda>"
/-- the def _law_told -/
structure TldP (P : Program) (w : World) (K : PySem.W.Frag) (T : Tab) (mg : Str → Option Value) (base : Heap) (k : Nat) : Prop where
  nn : ∃ c, mg "NoName" = some (.ref c)
  nl : ∃ c, mg "NothingLeft" = some (.ref c)
  ck : ∃ CS, ErrK K mg CS
  fp : FldP P w K T mg base k
  ex : ∃ (g : Addr) (pg : Arguments) (bg : List Stmt) (sg : Scope) (dV kV doc pm cdv ct oc : Value) (an od : Option Addr) (osl : Array (Option Value)), mg "_law_told" = some (.ref g) ∧ PySem.W.keepIn K (.ref g) = true ∧
    K.lookup g = some ⟨oc, od, .func (PySem.W.fnOf "_law_told" "_law_told" pg bg sg dV kV doc pm an cdv ct), osl⟩ ∧ PySem.W.codeIn K cdv "_law_told" = true ∧ L2.Binds K (PySem.W.fnOf "_law_told" "_law_told" pg bg sg dV kV doc pm an cdv ct) ["_law_ask"] [] ∧ FnScope NTold ["_law_ask"] sg ∧
    (sg.names.lookup ("SpanError" : Str) = some .globalImplicit ∧ sg.names.lookup ("NoName" : Str) = some .globalImplicit ∧ sg.names.lookup ("NothingLeft" : Str) = some .globalImplicit ∧ sg.names.lookup ("_law_field" : Str) = some .globalImplicit ∧ sg.names.lookup ("_law_e" : Str) = some .local ∧ Vis sg "_law_ask") ∧
    ∃ (st2 st3 : Stmt) (sts2 sts3 : List Stmt) (p1 p2 p3 p4 p5 p6 p7 p8 p9 p10 p11 p12 p13 p14 p15 p16 p17 p18 p19 : Pos) (j1 j2 j3 : Nat), bg = bTold st2 st3 sts2 sts3 p1 p2 p3 p4 p5 p6 p7 p8 p9 p10 p11 p12 p13 p14 p15 p16 p17 p18 p19 j1 j2 j3
theorem de_told {X : Cx} {T : Tab} {k kf : Nat} {params : Arguments} {body : Expr} {scope : Scope} {te : DTEx} {p lpos pos : Pos} (TP : TldP X.prog X.w X.K T X.mg X.base kf) (LT_ : LamT X T) (hk : kf ≤ k + 1) (hr : Room (k + 2) X.A) (hg : Gl X "_law_told") (L : LamX.LamS X.env.scope scope)
    (hbody : ∀ (A : Around) (outer : List Env) (s : Shared) (H : Hp) (E : XK) (f c' : Addr), Room k (A.deeper (LamX.lamEnv X scope s.heap.objs.size f c')) → PE (LamX.lamCx X A outer s H E scope f c') body (UpEx X.K T ⟨X.mg, E⟩ te))
    (hdef : defaultsOf params X.env = ([], []) := by rfl) (hbind : ∀ (q : Str) (cl : List (Str × Addr)) (pm cv ctv : Value), bindArgs (PySem.W.kla_fn "<lambda>" q params body scope cl pm cv ctv) ⟨[], []⟩ = pure [] := by intros; rfl) :
    PE X (.Call (.Name "_law_told" p) [.Lambda params body scope lpos] [] pos) (UpE X.K T (dTold te)) := by
  obtain ⟨g, pg, bg, sg, dV, kV, doc, pm, cdv, ct, oc, an, od, osl, h1, h2, h3, h4, h5, h6, ⟨g1, g2, g3, g4, g5, g6⟩, st2, st3, sts2, sts3, p1, p2, p3, p4, p5, p6, p7, p8, p9, p10, p11, p12, p13, p14, p15, p16, p17, p18, p19, j1, j2, j3, rfl⟩ := TP.ex
  obtain ⟨c, P, tb, hc, hm, hu⟩ := LT_.ex
  obtain ⟨CS, CK⟩ := TP.ck
  refine ⟨fun pins s σ H Q I ⟨S, τ, QD, sr, h, kq⟩ => ?_⟩
  refine (LamX.pe_lamcall (X := X) (T := tabsT T) (TT := TTd X.K T X.mg) (t := fun E => UpEx X.K T ⟨X.mg, E⟩ te) (k := k) (Ng := NTold) hg h1 h2 h3 h4 h5 h6 rfl g6
    (told_gives TP.fp CK TP.nn TP.nl (hr.mono (by omega)) g1 g2 g3 g4 g5) tb hc hm hu hr L hdef hbind hbody).run pins s σ H Q I ⟨sr.bag.tb, fun H1 eN t1 => ?_⟩
  have a1 := extN_aft sr eN t1
  have s1 := sr.aft a1
  refine ⟨fun cl d H2 => ∃ er, Aft X.K T S H H2 ∧ ErR X.K T X.mg S.B H2 er cl d ∧ okEr er ∧ QD (.v 2 (.tup [.str er.c, fieldD er])), ?_, fun cl d H2 ⟨er, a2, eR, ok, q⟩ => ⟨S.B, S.L, er, a2.bag, eR, ok, fun H3 v kp bag rv => ?_⟩⟩
  · refine ⟨S, τ, _, _, s1, h, fun H2 v sl a2 r q => ⟨lim_le' (Nat.le_of_ble_eq_true rfl), fun p hn => ?_⟩, fun H2 er cl d a2 eR ⟨ok, q⟩ => ⟨er, a1.trans a2, eR, ok, q⟩⟩
    have s2 := s1.aft a2
    have a3 := s2.laid (o := .tup [.str "told", v]) hn
    exact kq _ _ (.v (up sl.g sl.d) (.tup [.str "told", sl.d])) (a1.trans (a2.trans a3)) ⟨p, _, rfl, SqT.of upd_same, .str "told", [v], rfl, rfl, v, [], rfl, RepG.up (s2.rep a3.kp (r.g s1)), rfl⟩ q
  · have a3 : Aft X.K T S H H3 := ⟨a2.kp.trans kp, bag⟩
    refine kq H3 v (.v 2 (.tup [.str er.c, fieldD er])) a3 (Rep.imm _ _ ?_ rv) q
    show ((D.str er.c).imm && immAll [fieldD er]) = true
    simp [ok.imm]
theorem told_mk {P : Program} {w : World} {K : PySem.W.Frag} {T : Tab} {mg : Str → Option Value} {base : Heap} {k : Nat} {g CS : Addr} {pg : Arguments} {sg : Scope} {fd : FuncData} {st2 st3 : Stmt} {sts2 sts3 : List Stmt} {p1 p2 p3 p4 p5 p6 p7 p8 p9 p10 p11 p12 p13 p14 p15 p16 p17 p18 p19 : Pos} {j1 j2 j3 : Nat}
    (F : FunD K "_law_told" "_law_told" pg (bTold st2 st3 sts2 sts3 p1 p2 p3 p4 p5 p6 p7 p8 p9 p10 p11 p12 p13 p14 p15 p16 p17 p18 p19 j1 j2 j3) sg [] [] g fd) (m : mg "_law_told" = some (.ref g)) (S : FnScope NTold ["_law_ask"] sg)
    (hb : ∀ (kV doc pm : Value) (an : Option Addr) (cdv ct : Value) (us : List Value), us.length = ["_law_ask"].length → bindArgs (PySem.W.fnOf "_law_told" "_law_told" pg (bTold st2 st3 sts2 sts3 p1 p2 p3 p4 p5 p6 p7 p8 p9 p10 p11 p12 p13 p14 p15 p16 p17 p18 p19 j1 j2 j3) sg .none kV doc pm an cdv ct) ⟨us, []⟩ = pure ((["_law_ask"] : List Str).zip us))
    (hs : sg.names.lookup ("SpanError" : Str) = some .globalImplicit ∧ sg.names.lookup ("NoName" : Str) = some .globalImplicit ∧ sg.names.lookup ("NothingLeft" : Str) = some .globalImplicit ∧ sg.names.lookup ("_law_field" : Str) = some .globalImplicit ∧ sg.names.lookup ("_law_e" : Str) = some .local ∧ Vis sg "_law_ask")
    (nn : ∃ c, mg "NoName" = some (.ref c)) (nl : ∃ c, mg "NothingLeft" = some (.ref c)) (CK : ErrK K mg CS) (fp : FldP P w K T mg base k) : TldP P w K T mg base k := by
  have B := F.bindsN (ps := ["_law_ask"]) hb
  have kp := F.kp
  obtain ⟨oc, od, dV, kV, doc, pm, an, cdv, ct, osl, rfl, lk, hcd, _, _⟩ := F.ex
  exact ⟨nn, nl, ⟨CS, CK⟩, fp, g, pg, _, sg, dV, kV, doc, pm, cdv, ct, oc, an, od, osl, m, kp, lk, hcd, B, S, hs, st2, st3, sts2, sts3, p1, p2, p3, p4, p5, p6, p7, p8, p9, p10, p11, p12, p13, p14, p15, p16, p17, p18, p19, j1, j2, j3, rfl⟩
theorem fld_mk {P : Program} {w : World} {K : PySem.W.Frag} {T : Tab} {mg : Str → Option Value} {base : Heap} {f CS : Addr} {params : Arguments} {scope : Scope} {fd : FuncData} {p1 p2 p3 p4 p5 p6 p7 p8 p9 p10 p11 p12 p13 p14 p15 p16 p17 p18 p19 p20 p21 p22 p23 p24 p25 p26 p27 p28 p29 p30 p31 p32 p33 p34 p35 p36 p37 p38 p39 p40 p41 p42 p43 p44 p45 p46 p47 p48 p49 p50 p51 p52 p53 p54 p55 p56 p57 p58 p59 p60 p61 p62 p63 p64 : Pos} {j1 j2 j3 j4 j5 j6 j7 j8 j9 j10 j11 j12 j13 j14 j15 j16 j17 j18 j19 j20 : Nat}
    (F : FunD K "_law_field" "_law_field" params (bField p1 p2 p3 p4 p5 p6 p7 p8 p9 p10 p11 p12 p13 p14 p15 p16 p17 p18 p19 p20 p21 p22 p23 p24 p25 p26 p27 p28 p29 p30 p31 p32 p33 p34 p35 p36 p37 p38 p39 p40 p41 p42 p43 p44 p45 p46 p47 p48 p49 p50 p51 p52 p53 p54 p55 p56 p57 p58 p59 p60 p61 p62 p63 p64 j1 j2 j3 j4 j5 j6 j7 j8 j9 j10 j11 j12 j13 j14 j15 j16 j17 j18 j19 j20) scope [] [] f fd) (m : mg "_law_field" = some (.ref f)) (S : FnScope ["_law_e"] ["_law_e"] scope) (v0 : Vis scope "_law_e") (CK : ErrK K mg CS)
    (hb : ∀ (kV doc pm : Value) (an : Option Addr) (cdv ct : Value) (us : List Value), us.length = ["_law_e"].length → bindArgs (PySem.W.fnOf "_law_field" "_law_field" params (bField p1 p2 p3 p4 p5 p6 p7 p8 p9 p10 p11 p12 p13 p14 p15 p16 p17 p18 p19 p20 p21 p22 p23 p24 p25 p26 p27 p28 p29 p30 p31 p32 p33 p34 p35 p36 p37 p38 p39 p40 p41 p42 p43 p44 p45 p46 p47 p48 p49 p50 p51 p52 p53 p54 p55 p56 p57 p58 p59 p60 p61 p62 p63 p64 j1 j2 j3 j4 j5 j6 j7 j8 j9 j10 j11 j12 j13 j14 j15 j16 j17 j18 j19 j20) scope .none kV doc pm an cdv ct) ⟨us, []⟩ = pure ((["_law_e"] : List Str).zip us)) : FldP P w K T mg base 1 :=
  ⟨f, fd, ["_law_e"], m, F.kp, F.bindsN hb, field_ok (k := 0) F S v0 CK⟩
end DL
/-! DX5: frames that let errors out; the promises of defs that may raise. -/
namespace DL
open PySem PySem.Spec PyProof.Rows L2
section
variable {P : Program} {w : World} {K : PySem.W.Frag} {T : Tab} {mg : Str → Option Value} {base : Heap} {N : List Str} {qual : Str} {scope : Scope} {f : Addr} {cd : Value} {A : Around} {outer : List Env} {s : Shared} {H : Hp} {E : XK}
theorem takes_cx : L2.Takes (cxOf (L2.CX P w) P w K mg base N qual scope f cd A outer s H E) (fun cls d _ H => E cls d H) := L2.takes_of (X := cxOf (L2.CX P w) P w K mg base N qual scope f cd A outer s H E) rfl rfl rfl rfl
theorem passes_cx : Passes (L2.CX P w) (cxOf (L2.CX P w) P w K mg base N qual scope f cd A outer s H E) E := L2.passes_call takes_cx fun _ _ _ _ z => z
theorem owns_cx : PassesOwn (model P w) (cxOf (L2.CX P w) P w K mg base N qual scope f cd A outer s H E).A (cxOf (L2.CX P w) P w K mg base N qual scope f cd A outer s H E).env (cxOf (L2.CX P w) P w K mg base N qual scope f cd A outer s H E).xe :=
  L2.passes_of (X := cxOf (L2.CX P w) P w K mg base N qual scope f cd A outer s H E) (K := fun e s'' => L2.CX P w outer H s E e s'') rfl
end
/-- the plain law of a def that may raise -/
def PureX (C : CtrX) (t : DTS) (N : List Str) : Prop := ∀ ds QD QE, C ds QD QE → t { nx := fun _ => QD (.v 2 .non), rt := QD, er := QE } (startD N ds)
section
variable {P : Program} {w : World} {K : PySem.W.Frag} {T : Tab} {mg : Str → Option Value} {base : Heap} {x m qual : Str} {params : Arguments} {body : List Stmt} {scope : Scope} {f : Addr} {fd : FuncData} {k c : Nat} {ps : List Str} {C : CtrX}
theorem fnx_mk (F : FunD K x qual params body scope [] [] f fd) (hm : mg x = some (.ref f)) (ok : FnOk P w K mg base (L2.CX P w) k f fd ps (spX K T mg C))
    (hb : ∀ (kV doc pm : Value) (an : Option Addr) (cdv ct : Value) (us : List Value), us.length = ps.length → bindArgs (PySem.W.fnOf x qual params body scope .none kV doc pm an cdv ct) ⟨us, []⟩ = pure (ps.zip us)) : FnX P w K T mg base x k [] C :=
  ⟨f, fd, ps, [], [], hm, F.kp, F.bindsN hb, .nil, rfl, ok⟩
end
/-! ### the errors' own __init__ -/
theorem spErr_congr {C : Addr} {n : Nat} {fs gs : List V → List (Str × V)} (h : ∀ ws, ws.length = n → fs ws = gs ws) {vs : List V} {H : Hp} {Q : VK} {E : XK} (x : spErr C n gs vs H Q E) : spErr C n fs vs H Q E := by
  obtain ⟨a, ws, e, hl, ha, q⟩ := x
  exact ⟨a, ws, e, hl, ha, fun dx H' h1 h2 h3 h4 h5 => q dx H' h1 h2 h3 (by rw [← h ws hl]; exact h4) h5⟩
section
variable {P : Program} {w : World} {K : PySem.W.Frag} {mg : Str → Option Value} {base : Heap} {x qual wd sf f1 f2 v1 v2 : Str} {params : Arguments} {scope : Scope} {f C : Addr} {fd : FuncData} {j : Nat} {p1 p2 p3 p4 p5 p6 p7 p8 p9 p10 p11 p12 : Pos}
theorem erc_mk1 (F : FunD K "__init__" qual params [.Assign [.Attribute (.Name sf p1) "word" p2] (.Constant (.str x) j p3) p4, .Assign [.Attribute (.Name sf p5) f1 p6] (.Name f1 p7) p8] scope [] [] f fd) (S : FnScope [sf, f1] [sf, f1] scope) (hm : mg x = some (.ref C)) (T : OexC K C) (M : Meth K C "__init__" f)
    (h0 : PySem.W.findIn K (.ref C) "word" = some none) (h1 : PySem.W.findIn K (.ref C) f1 = some none)
    (hb : ∀ (kV doc pm : Value) (an : Option Addr) (cdv ct : Value) (us : List Value), us.length = [sf, f1].length → bindArgs (PySem.W.fnOf "__init__" qual params [.Assign [.Attribute (.Name sf p1) "word" p2] (.Constant (.str x) j p3) p4, .Assign [.Attribute (.Name sf p5) f1 p6] (.Name f1 p7) p8] scope .none kV doc pm an cdv ct) ⟨us, []⟩ = pure ([sf, f1].zip us))
    (v0 : Vis scope sf := by exact .inl rfl) (v1 : Vis scope f1 := by exact .inl rfl) (d0 : (sf == ("__debug__" : Str)) = false := by decide) (d1 : (sf == ("__classdict__" : Str)) = false := by decide) (d2 : (f1 == ("__debug__" : Str)) = false := by decide) (d3 : (f1 == ("__classdict__" : Str)) = false := by decide) : ErC P w K mg base x 1 [f1] :=
  ⟨C, f, fd, [sf, f1], hm, T, M.at_, beq_iff_eq.mp M.fn, F.bindsN hb, (err1_ok (k := 0) F S T h0 h1 v0 v1 d0 d1 d2 d3).imp fun _ _ _ _ z => spErr_congr (fun ws hl => by
    obtain ⟨y, rfl⟩ := List.length_eq_one_iff.mp hl
    rfl) z⟩
end
end DL
/-! DX6: sums of lists of numbers; is / is not with True and False. -/
namespace DL
open PySem PySem.Spec PyProof.Rows L2
@[simp] def intsD : List D → Option (List Int)
  | [] => some []
  | .int i :: ds => (intsD ds).map (i :: ·)
  | _ => none
@[simp] def fSum : DCB := fun _ ds Q => match ds with
  | [.lst es] => match intsD es with
    | some ns => Q (.v 2 (.int ns.sum))
    | none => False
  | _ => False
@[simp] def fIsB : DF2 := fun _ d _ d' Q => match d, d' with
  | .bl a, .bl b => Q (.v 2 (.bl (decide (a = b))))
  | _, _ => False
@[simp] def fIsNB : DF2 := fun _ d _ d' Q => match d, d' with
  | .bl a, .bl b => Q (.v 2 (.bl (!decide (a = b))))
  | _, _ => False
end DL
/-! DX7: instances whose making may raise. -/
namespace DL
open PySem PySem.Spec PyProof.Rows L2
def spIX (K : PySem.W.Frag) (T : Tab) (mg : Str → Option Value) (c : Nat) (C : CtrXI) : Sp := fun vs H Q E => ∃ (B : Option Addr) (L : LX) (M : Addr → Prop) (ds : List D) (QD : List D → Prop) (QE : Er → Prop) (x dx : Addr) (us : List V), vs = .ref x :: us ∧ H x = some (.ins (T c).1 dx []) ∧ B ≠ some x ∧ L.a ≠ x ∧ ¬ M x ∧
  BagOk T B L H ∧ (∀ a, M a → Lv H a) ∧ Reps K T B (fun a => B = some a ∨ a = x) H ds us ∧ C ds QD QE ∧
  (∀ H' fs ws dx', Kp (fun a => B = some a ∨ a = x) H H' → BagOk T B L H' → H' x = some (.ins (T c).1 dx' ((T c).2.zip ws)) → Reps K T B (fun a => (M a ∨ B = some a) ∨ a = x) H' fs ws → QD fs → Q .non H') ∧
  ∀ H' er cls d, Kp (fun a => B = some a ∨ a = x) H H' → BagOk T B L H' → ErR K T mg B H' er cls d → QE er → E cls d H'
@[simp] def dMakeX (c : Nat) (C : CtrXI) (dd : List D) (ta : DTA) : DTEx := fun τ Q R => ta τ fun _ ds => C (ds ++ dd) (fun fs => Q (.v 2 (.obj c fs))) R
section
variable {K : PySem.W.Frag} {T : Tab} {mg : Str → Option Value} {S : Sit} {τ : DSt} {σ : L2.St} {H : Hp} {c : Nat} {C : CtrXI} {ds : List D} {vs : List V} {QD : Sl → Prop} {QE : Er → Prop} {Q : VK} {E : XK} {g : Nat}
end
structure MkrX (P : Program) (w : World) (K : PySem.W.Frag) (T : Tab) (mg : Str → Option Value) (base : Heap) (x : Str) (c k : Nat) (dd : List D) (C : CtrXI) : Prop where
  ex : ∃ (f : Addr) (fd : FuncData) (ps : List Str) (ds : List Value) (dvs : List V), Mk K (T c).1 f ∧ mg x = some (.ref (T c).1) ∧ Binds K fd ps ds ∧ Vals dvs ds ∧ isScs dd dvs ∧ FnOk P w K mg base (L2.CX P w) k f fd ps (spIX K T mg c C)
theorem spI_X {K : PySem.W.Frag} {T : Tab} {mg : Str → Option Value} {c : Nat} {C : CtrXI} {vs : List V} {H : Hp} {Q : VK} {E : XK} (h : spI K T c (fun ds Q => C ds Q fun _ => False) vs H Q E) : spIX K T mg c C vs H Q fun _ _ _ => False := by
  obtain ⟨B, L, M, ds, QD, x, dx, us, h1, h2, h3, h4, h5, h6, h7, h8, h9, h10⟩ := h
  exact ⟨B, L, M, ds, QD, fun _ => False, x, dx, us, h1, h2, h3, h4, h5, h6, h7, h8, h9, h10, fun _ _ _ _ _ _ _ z => z⟩
theorem MkrX.calm {P : Program} {w : World} {K : PySem.W.Frag} {T : Tab} {mg : Str → Option Value} {base : Heap} {x : Str} {c k : Nat} {dd : List D} {C : CtrXI} {C' : CtrI} (F : MkrX P w K T mg base x c k dd C) (h : ∀ ds Q, C' ds Q → C ds Q fun _ => False) : Mkr P w K T mg base x c k dd C' := by
  obtain ⟨f, fd, ps, ds, dvs, h1, h2, h3, h4, h5, h6⟩ := F.ex
  refine ⟨f, fd, ps, ds, dvs, h1, h2, h3, h4, h5, (FnOk.calm h6).imp fun vs H Q E z => spI_X (E := E) ?_⟩
  obtain ⟨B, L, M, ds, QD, x, dx, us, g1, g2, g3, g4, g5, g6, g7, g8, g9, g10⟩ := z
  exact ⟨B, L, M, ds, QD, x, dx, us, g1, g2, g3, g4, g5, g6, g7, g8, h ds QD g9, g10⟩
section
variable {X : Cx} {T : Tab} {k c : Nat} {Ci : CtrXI} {dd : List D} {E : XK} {x : Str} {p pos : Pos} {e : Expr} {es : List Expr} {t : DTA}
end
section
variable {P : Program} {w : World} {K : PySem.W.Frag} {T : Tab} {mg : Str → Option Value} {base : Heap} {x m qual : Str} {params : Arguments} {body : List Stmt} {scope : Scope} {dvs : List V} {kws : List (Str × V)} {f : Addr} {fd : FuncData} {N ps : List Str} {k : Nat}
def PureXI (c n : Nat) (C : CtrXI) (t : DTS) (N : List Str) : Prop := ∀ ds QD QE, C ds QD QE → t { nx := endI c n QD, rt := fun _ => False, er := QE } (startI N c ds)
end
end DL
/-! DLX: loops by what holds ahead of each turn, where a turn may raise. -/
namespace DL
open PySem PySem.Spec PyProof.Rows L2
/-- the ends of a turn: those of the loop but for nx, ct, bk -/
structure TurnOf (E E' : DEnds) : Prop where
  rt : E'.rt = E.rt
  rb : E'.rb = E.rb
  bk : E'.bk = E.nx
  er : E'.er = E.er
theorem for_x {g : Nat} {tg : DTG} {tb : DTS} {E : DEnds} (I : Nat → DSt → Prop) : ∀ (ds : List D) (n : Nat) (τ : DSt),
    (∀ k d τ (E' : DEnds), ds[k]? = some d → TurnOf E E' → (∀ τ', I (n + k + 1) τ' → E'.nx τ' ∧ E'.ct τ') → I (n + k) τ → tg (up g d) d τ (tb E')) → (∀ τ, I (n + ds.length) τ → E.nx τ) → I n τ → forRec g tg tb E ds τ
  | [], n, τ, _, hf, h => hf τ h
  | d :: ds, n, τ, hs, hf, h => by
    have ih : ∀ τ', I (n + 0 + 1) τ' → forRec g tg tb E ds τ' := fun τ' h' => by
      refine for_x I ds (n + 1) τ' (fun k d τ E' e t h3 h5 => hs (k + 1) d τ E' (by simpa using e) t (fun τ' z => h3 τ' ?_) ?_) (fun τ z => hf τ ?_) h'
      · rwa [show n + 1 + k + 1 = n + (k + 1) + 1 by omega]
      · rwa [show n + (k + 1) = n + 1 + k by omega]
      · rwa [show n + (d :: ds).length = n + 1 + ds.length by rw [List.length_cons]; omega]
    exact hs 0 d τ { E with nx := forRec g tg tb E ds, ct := forRec g tg tb E ds, bk := E.nx } rfl ⟨rfl, rfl, rfl, rfl⟩ (fun τ' z => ⟨ih τ' z, ih τ' z⟩) h
theorem for_invX {g : Nat} {tg : DTG} {tb : DTS} {E : DEnds} (I : Nat → DSt → Prop) {ds : List D} {τ : DSt} (h0 : I 0 τ)
    (hs : ∀ k d τ (E' : DEnds), ds[k]? = some d → TurnOf E E' → (∀ τ', I (k + 1) τ' → E'.nx τ' ∧ E'.ct τ') → I k τ → tg (up g d) d τ (tb E')) (hf : ∀ τ, I ds.length τ → E.nx τ) : forRec g tg tb E ds τ :=
  for_x I ds 0 τ (fun k d τ E' e t h3 h5 => hs k d τ E' e t (fun τ' z => h3 τ' (by rwa [Nat.zero_add])) (by rwa [Nat.zero_add] at h5)) (fun τ z => hf τ (by rwa [Nat.zero_add] at z)) h0
end DL
/-! DK1: calls with keywords. -/
namespace DL
open PySem PySem.Spec PyProof.Rows L2
structure FnK (P : Program) (w : World) (K : PySem.W.Frag) (T : Tab) (mg : Str → Option Value) (base : Heap) (x : Str) (k n : Nat) (ks : List Str) (C : Ctr) : Prop where
  ex : ∃ (f : Addr) (fd : FuncData) (ps : List Str), mg x = some (.ref f) ∧ PySem.W.keepIn K (.ref f) = true ∧ KBn K fd ps n ks (fun us ws => us ++ ws) (fun vs zs => vs ++ zs) ∧ FnOk P w K mg base CX0 k f fd ps (spC K T C)
structure FnXK (P : Program) (w : World) (K : PySem.W.Frag) (T : Tab) (mg : Str → Option Value) (base : Heap) (x : Str) (k n : Nat) (ks : List Str) (C : CtrX) : Prop where
  ex : ∃ (f : Addr) (fd : FuncData) (ps : List Str), mg x = some (.ref f) ∧ PySem.W.keepIn K (.ref f) = true ∧ KBn K fd ps n ks (fun us ws => us ++ ws) (fun vs zs => vs ++ zs) ∧ FnOk P w K mg base (L2.CX P w) k f fd ps (spX K T mg C)
theorem FnXK.calm {P : Program} {w : World} {K : PySem.W.Frag} {T : Tab} {mg : Str → Option Value} {base : Heap} {x : Str} {k n : Nat} {ks : List Str} {C : CtrX} {C' : Ctr} (F : FnXK P w K T mg base x k n ks C) (h : ∀ ds Q, C' ds Q → C ds Q fun _ => False) : FnK P w K T mg base x k n ks C' := by
  obtain ⟨f, fd, ps, h1, h2, h3, h6⟩ := F.ex
  refine ⟨f, fd, ps, h1, h2, h3, (FnOk.calm h6).imp fun vs H Q E z => spC_X (E := E) ?_⟩
  obtain ⟨B, L, M, ds, QD, bag, hm, r, q, kk⟩ := z
  exact ⟨B, L, M, ds, QD, bag, hm, r, h ds QD q, kk⟩
@[simp] def dCallK (n m : Nat) (C : Ctr) (ta tk : DTA) : DTE := fun τ Q => ta τ fun _ ds => tk τ fun _ es => ds.length = n ∧ es.length = m ∧ C (ds ++ es) Q
@[simp] def dCallXK (n m : Nat) (C : CtrX) (ta tk : DTA) : DTEx := fun τ Q R => ta τ fun _ ds => tk τ fun _ es => ds.length = n ∧ es.length = m ∧ C (ds ++ es) Q R
section
variable {X : Cx} {T : Tab} {k n : Nat} {ks : List Str} {C : Ctr} {Cq : CtrX} {E : XK} {x : Str} {p pos kpos : Pos} {e : Expr} {es : List Expr} {kws : List Keyword} {te : DTE} {t tk : DTA} {nm : Option Str}
theorem PK.of {t t' : TA} (h : PK X kws t) (w : ∀ σ H Q, t' σ H Q → t σ H Q) : PK X kws t' := ⟨fun pos pins s σ H Q I q => h.run pos pins s σ H Q I (w σ H Q q)⟩
end
/-! ### from a def with keyword-only parameters: all of them written -/
section
variable {P : Program} {w : World} {K : PySem.W.Frag} {T : Tab} {mg : Str → Option Value} {base : Heap} {x qual : Str} {params : Arguments} {body : List Stmt} {scope : Scope} {kws : List (Str × V)} {f : Addr} {fd : FuncData} {ps ks : List Str} {k : Nat} {C : Ctr} {Cq : CtrX} {dd : List D}
end
end DL
/-! DK2: xs.insert(i, y) on a list of this frame's own. -/
namespace DL
open PySem PySem.Spec PyProof.Rows L2
@[simp] def dIns (i : Nat) (ti te : DTE) : DTS := fun D τ => match τ[i]? with
  | some (.own ds) => ti τ fun si => match si.d with
    | .int k => te τ fun sl => (Nat.ble 2 sl.g || sl.d.imm) = true ∧ ds.length < 1000000 ∧ 0 ≤ k ∧ k < 4611686018427387904 ∧ D.nx (τ.set i (.own (ds.take k.toNat ++ [sl.d] ++ ds.drop k.toNat)))
    | _ => False
  | _ => False
section
variable {X : Cx} {T : Tab} {ek : EK} {ti te : DTE} {i : Nat}
theorem ds_ins {st : Stmt} (h : PS X st (tDrop (tBM X.K "list" (fun x vs H Q => ∃ (l : Addr) (xs : List V) (i : Int) (y : V), x = .ref l ∧ vs = [.int i, y] ∧ H l = some (.lst xs) ∧ xs.length < sizeLine ∧ 0 ≤ i ∧ i < 2 ^ 63 ∧ Q .non (upd H l (.lst (xs.take i.toNat ++ [y] ++ xs.drop i.toNat)))) (tVar i) (tCons (UpE X.K T ti) (tCons (UpE X.K T te) tNil))))) : PS X st (UpS X.K T ek (dIns i ti te)) :=
  h.of fun D σ H ⟨S, τ, DD, sr, h, o⟩ => by
    unfold dIns at h
    split at h
    · rename_i ds et
      obtain ⟨p, vs, e1, e2, e3, e4, e5, rs⟩ := sr.own i ds et
      refine ⟨.ref p, e1, .inl ⟨rfl, _, SqL.of e2⟩, S, τ, _, sr, h, fun H1 w1 s1 a1 r1 q => ?_⟩
      have sr1 := sr.aft a1
      split at q
      · rename_i k ek
        have rk := r1.g sr
        rw [ek] at rk
        have rk : w1 = .int k := rk
        subst rk
        refine ⟨S, τ, _, sr1, q, fun H2 w s2 a2 r2 q => ?_⟩
        have a := a1.trans a2
        have sr2 := sr.aft a
        obtain ⟨q1, q2, q4, q5, q3⟩ := q
        have f2 := a.kp.k p _ e2 e4
        have rd := rd_of q1 (r2.g sr1)
        have rr := sr.reps a.kp rs
        obtain ⟨s3, k3⟩ := sr2.put (us := vs.take k.toNat ++ [w] ++ vs.drop k.toNat) et e1 (Reps.append (Reps.append (rr.take _) (Reps.one rd)) (rr.drop _))
        exact ⟨p, vs, k, w, rfl, rfl, f2, by rw [rs.len]; exact Nat.lt_of_lt_of_le q2 (lim_le' (Nat.le_refl _)), q4, by omega, o.nx S.P _ _ _ s3 q3⟩
      · exact q.elim
    · exact h.elim
end
end DL
/-! DK3: defs that hand back parts of what they are given. -/
namespace DL
open PySem PySem.Spec PyProof.Rows L2
def spC2 (K : PySem.W.Frag) (T : Tab) (C : Ctr) : Sp := fun vs H Q _ => ∃ (B : Option Addr) (L : LX) (M : Addr → Prop) (ds : List D) (QD : Sl → Prop), BagOk T B L H ∧ (∀ a, M a → Lv H a) ∧ Reps K T B (fun a => B = some a ∨ M a) H ds vs ∧ C ds QD ∧
  ∀ H' v sl, Kp (fun a => B = some a) H H' → BagOk T B L H' → RepR K T B M H H' sl v → QD sl → Q v H'
@[simp] def startD2 (N : List Str) (ds : List D) : DSt := ds.map (fun d => Sl.v 2 d) ++ List.replicate (N.length - ds.length) .un
section
variable {P : Program} {w : World} {K : PySem.W.Frag} {T : Tab} {mg : Str → Option Value} {base : Heap} {x qual : Str} {params : Arguments} {body : List Stmt} {scope : Scope} {dvs : List V} {kws : List (Str × V)} {f : Addr} {fd : FuncData} {N ps : List Str} {k : Nat}
end
structure Fn2 (P : Program) (w : World) (K : PySem.W.Frag) (T : Tab) (mg : Str → Option Value) (base : Heap) (x : Str) (k : Nat) (C : Ctr) : Prop where
  ex : ∃ (f : Addr) (fd : FuncData) (ps : List Str), mg x = some (.ref f) ∧ PySem.W.keepIn K (.ref f) = true ∧ Binds K fd ps [] ∧ FnOk P w K mg base CX0 k f fd ps (spC2 K T C)
/-- the arguments keep what they are, whoever goes on -/
@[simp] def dCall2 (C : Ctr) (ta : DTA) : DTE := fun τ Q => ta τ fun g ds => 2 ≤ g ∧ C ds Q
end DL
/-! DK4: long displays of written data. -/
namespace DL
open PySem PySem.Spec PyProof.Rows L2
def CE (te : DTE) (d : D) : Prop := ∀ τ Q, te τ Q = Q (.v 2 d)
def CA (ta : DTA) (ds : List D) : Prop := ∀ τ Q, ta τ Q = Q 2 ds
theorem ce_k {d : D} : CE (dK d) d := fun _ _ => rfl
theorem ce_neg {i : Int} : CE (dNeg (dK (.int i))) (.int (-i)) := fun _ _ => rfl
theorem ce_tup {ta : DTA} {ds : List D} (h : CA ta ds) (hl : Nat.ble ds.length 1000000 = true := by rfl) : CE (dTup ta) (.tup ds) := fun τ Q => by
  unfold dTup
  rw [h, hl]
theorem ca_nil : CA aNil [] := fun _ _ => rfl
theorem ca_cons {te : DTE} {ta : DTA} {d : D} {ds : List D} (h1 : CE te d) (h2 : CA ta ds) : CA (aCons te ta) (d :: ds) := fun τ Q => by
  unfold aCons
  rw [h1, h2]
  rfl
theorem lst_c {ta : DTA} {ds : List D} (h : CA ta ds) (τ : DSt) (Q : Sl → Prop) (hl : Nat.ble ds.length 1000000 = true := by rfl) : dLst ta τ Q = Q (.own ds) := by
  unfold dLst
  rw [h, hl]
  rfl
theorem cat_c {ta : DTA} {ds es : List D} {i : Nat} (h : CA ta ds) {τ : DSt} {Q : Sl → Prop} (e : τ[i]? = some (.own es)) (hi : immAll es = true) (hl : es.length + ds.length ≤ 1000000) (hl2 : Nat.ble ds.length 1000000 = true := by rfl) (q : Q (.own (es ++ ds))) : dOp fAdd (dVar i) (dLst ta) τ Q := by
  simp only [dOp, dVar, e]
  rw [lst_c h _ _ hl2]
  simp [hi, hl, q]
/-! ### x not in (..), scalars -/
@[simp] def fNotInF : DF2 := fun _ d _ d' Q => match elems d' with
  | some ds => match scV d with
    | some v => match scs ds with
      | some vs => Q (.v 2 (.bl (!L2.inV v vs)))
      | none => False
    | none => False
  | none => False
theorem r2_notInF {K : PySem.W.Frag} {T : Tab} : R2D K T (L2.rIn K true) fNotInF := by
  intro S τ σ H g d g' d' v u QD Q sr r1 r2 q k
  unfold fNotInF at q
  split at q
  · rename_i ds hd
    split at q
    · rename_i x hx
      split at q
      · rename_i xs hxs
        obtain ⟨p, vs, rfl, hq, rs⟩ := Rep.el r2 hd
        obtain ⟨rfl, f1⟩ := scV_rep hx r1
        obtain ⟨rfl, f2⟩ := scs_rep hxs rs
        exact ⟨p, _, rfl, hq, f1, f2, k H (.bl (!L2.inV _ _)) (.v 2 (.bl (!L2.inV _ _))) sr.same rfl q⟩
      · exact q.elim
    · exact q.elim
  · exact q.elim
end DL
/-! DQ1: ==, != and len of instances with an own __eq__, an own __len__. -/
namespace DQ
open PySem PySem.W PySem.Calls PyProof.Rows
section
variable {prog : Program} {w : World} {A : Around} {E : Value → Shared → Prop} {s : Shared} {K : Frag} {x y C f : Addr} {ox oy : Obj} {od : Option Obj}
end
end DQ
/-! DQ2: ==, != and len of instances that are data. -/
namespace DL
open PySem PySem.Spec PyProof.Rows L2
section
variable {X : Cx}
def rEqO (C : Addr) (sp : Sp) (neg : Bool) : R2 := fun x y H Q => ∃ a b dx dy fs gs, x = .ref a ∧ y = .ref b ∧ H a = some (.ins C dx fs) ∧ H b = some (.ins C dy gs) ∧ sp [x, y] H (fun v H' => ∃ t : Bool, v = .bl t ∧ Q (.bl (t != neg)) H') fun _ _ _ => True
def rLenO (C : Addr) (sp : Sp) : List V → Hp → VK → Prop := fun xs H Q => ∃ a dx fs, xs = [.ref a] ∧ H a = some (.ins C dx fs) ∧ sp xs H (fun v H' => ∃ n : Int, v = .int n ∧ 0 ≤ n ∧ n < 2 ^ 63 ∧ Q (.int n) H') fun _ _ _ => True
end
/-! ### over data -/
@[simp] def fEqO (c : Nat) (C : Ctr) (neg : Bool) : DF2 := fun _ d _ d' Q => match d, d' with
  | .obj c1 fs, .obj c2 gs => (c1 = c ∧ c2 = c) ∧ C [.obj c fs, .obj c gs] fun sl => ∃ t : Bool, sl.d = .bl t ∧ Q (.v 2 (.bl (t != neg)))
  | _, _ => False
@[simp] def fLenO (c : Nat) (C : Ctr) : DCB := fun _ ds Q => match ds with
  | [.obj c' fs] => c' = c ∧ C [.obj c fs] fun sl => ∃ n : Int, sl.d = .int n ∧ 0 ≤ n ∧ n < 4611686018427387904 ∧ Q (.v 2 (.int n))
  | _ => False
structure EqD (K : PySem.W.Frag) (C : Addr) : Prop where
  mro : PySem.W.mroIn K C (.type "object") = some true
  ne : PySem.W.findIn K (.ref C) "__ne__" = some (some (.builtin "object.__ne__"))
section
variable {X : Cx} {T : Tab} {k c : Nat} {C : Ctr} {a b e : Expr} {ta tb te : DTE} {p pos : Pos}
end
end DL
/-! DQ3: isinstance of an own class; what a head tells of own == and of isinstance. -/
namespace DL
open PySem PySem.Spec PyProof.Rows L2
@[simp] def dIsO (c : Nat) (te : DTE) : DTE := fun τ Q => te τ fun s => match s.d with
  | .obj c' _ => c' = c ∧ Q (.v 2 (.bl true))
  | _ => False
section
variable {X : Cx} {T : Tab} {c : Nat} {e : Expr} {te : DTE} {y : Str} {p p1 pos : Pos}
end
section
variable {K : PySem.W.Frag} {T : Tab} {x : Str} {c : Nat}
end
end DL
/-! DQ4: len of an instance whose making may raise. -/
namespace DL
open PySem PySem.Spec PyProof.Rows L2
@[simp] def dLenX (c : Nat) (C : Ctr) (te : DTEx) : DTEx := fun τ Q R => te τ (fun sl => fLenO c C sl.g [sl.d] Q) R
end DL
/-! DGR: properties and __init__s that keep parts of what they are given. -/
namespace DL
open PySem PySem.Spec PyProof.Rows L2
structure Pr2 (P : Program) (w : World) (K : PySem.W.Frag) (T : Tab) (mg : Str → Option Value) (base : Heap) (c : Nat) (f : Str) (k : Nat) (C : Ctr) : Prop where
  ex : ∃ (p g : Addr) (fd : FuncData) (ps : List Str), Cls K (T c).1 ∧ PropOf K (T c).1 f p g ∧ Binds K fd ps [] ∧ FnOk P w K mg base CX0 k g fd ps (spC2 K T C)
@[simp] def atV (n : Nat) (Q : Sl → Prop) : Sl → Prop := fun sl => match sl with
  | .v _ d => Q (.v n d)
  | _ => False
@[simp] def dProp2 (c : Nat) (C : Ctr) (to : DTE) : DTE := fun τ Q => to τ fun o => match o.d with
  | .obj c' fs => c' = c ∧ match o.g with
    | 0 => False
    | 1 => C [.obj c fs] (atV 1 Q)
    | _ + 2 => C [.obj c fs] Q
  | _ => False
section
variable {X : Cx} {T : Tab} {c k : Nat} {f : Str} {C : Ctr} {o : Expr} {to : DTE} {pos : Pos}
end
section
variable {P : Program} {w : World} {K : PySem.W.Frag} {T : Tab} {mg : Str → Option Value} {base : Heap} {x m qual : Str} {params : Arguments} {body : List Stmt} {scope : Scope} {f : Addr} {fd : FuncData} {ps : List Str} {k c : Nat} {C : Ctr} {Ci : CtrI}
end
/-! ### __init__ -/
def spI2 (K : PySem.W.Frag) (T : Tab) (c : Nat) (C : CtrI) : Sp := fun vs H Q _ => ∃ (B : Option Addr) (L : LX) (M : Addr → Prop) (ds : List D) (QD : List D → Prop) (x dx : Addr) (us : List V), vs = .ref x :: us ∧ H x = some (.ins (T c).1 dx []) ∧ B ≠ some x ∧ L.a ≠ x ∧ ¬ M x ∧
  BagOk T B L H ∧ (∀ a, M a → Lv H a) ∧ Reps K T B (fun a => (M a ∨ B = some a) ∨ a = x) H ds us ∧ C ds QD ∧
  ∀ H' fs ws dx', Kp (fun a => B = some a ∨ a = x) H H' → BagOk T B L H' → H' x = some (.ins (T c).1 dx' ((T c).2.zip ws)) → Reps K T B (fun a => (M a ∨ B = some a) ∨ a = x) H' fs ws → QD fs → Q .non H'
@[simp] def dMake2 (c : Nat) (C : CtrI) (ta : DTA) : DTE := fun τ Q => ta τ fun g ds => 2 ≤ g ∧ C ds fun fs => Q (.v 2 (.obj c fs))
@[simp] def dMakeL2 (i c : Nat) (C : CtrI) (ta : DTA) : DTE := fun τ Q => dVar i τ fun s => s.d = .cls c ∧ ta τ fun g ds => 2 ≤ g ∧ C ds fun fs => Q (.v 2 (.obj c fs))
@[simp] def startI2 (N : List Str) (c : Nat) (ds : List D) : DSt := Sl.ins c [] :: (ds.map (fun d => Sl.v 2 d) ++ List.replicate (N.length - (ds.length + 1)) .un)
section
variable {P : Program} {w : World} {K : PySem.W.Frag} {T : Tab} {mg : Str → Option Value} {base : Heap} {x qual : Str} {params : Arguments} {body : List Stmt} {scope : Scope} {dvs : List V} {kws : List (Str × V)} {f : Addr} {fd : FuncData} {N ps : List Str} {k : Nat}
end
structure Mkr2 (P : Program) (w : World) (K : PySem.W.Frag) (T : Tab) (mg : Str → Option Value) (base : Heap) (x : Str) (c k : Nat) (C : CtrI) : Prop where
  ex : ∃ (f : Addr) (fd : FuncData) (ps : List Str), Mk K (T c).1 f ∧ mg x = some (.ref (T c).1) ∧ Binds K fd ps [] ∧ FnOk P w K mg base CX0 k f fd ps (spI2 K T c C)
section
variable {X : Cx} {T : Tab} {x y : Str} {pos p : Pos} {i c k : Nat} {e : Expr} {es : List Expr} {t : DTA} {Ci : CtrI}
end
end DL
/-! DQ5: == of tuples of instances with an own __eq__. -/
namespace DQ
open PySem PySem.SeqAt
open AutoSeq1 (wpAny_loadPart')
open MeetsSeq MeetsSeq2 MeetsSeq3 SeqRoads2
section
variable {prog : Program} {w : World} {A : Around} {R : Result → Shared → Prop}
end
section
variable {prog : Program} {w : World} {A : Around} {E : Value → Shared → Prop} {s : Shared}
end
end DQ
/-! DQ6: == of pairs of instances that are data. -/
namespace DL
open PySem PySem.Spec PyProof.Rows L2
def TInj (K : PySem.W.Frag) (H : Hp) : Prop := ∀ t xs ys, SqT K H t xs → SqT K H t ys → xs = ys
def EqI (K : PySem.W.Frag) (C : Addr) (sp : Sp) (x y : V) (H : Hp) (Q : Bool → Hp → Prop) : Prop := ∃ a b dx dy fs gs, x = .ref a ∧ y = .ref b ∧ H a = some (.ins C dx fs) ∧ H b = some (.ins C dy gs) ∧ (TInj K H → a = b → Q true H) ∧
  sp [x, y] H (fun v H' => ∃ t : Bool, v = .bl t ∧ Q t H') fun _ _ _ => True
section
variable {X : Cx}
def rEqT (K : PySem.W.Frag) (C : Addr) (sp : Sp) : R2 := fun x y H Q => ∃ l b x1 x2 y1 y2, x = .ref l ∧ y = .ref b ∧ SqT K H l [x1, x2] ∧ SqT K H b [y1, y2] ∧
  EqI K C sp x1 y1 H fun t H1 => (t = true → EqI K C sp x2 y2 H1 fun t2 H2 => Q (.bl t2) H2) ∧ (t = false → Q (.bl false) H1)
end
end DL
/-! DQ7: == of pairs of instances, over data. -/
namespace DL
open PySem PySem.Spec PyProof.Rows L2
def scB : D → Bool
  | .non => true
  | .bl _ => true
  | .int _ => true
  | .str _ => true
  | _ => false
def ptB : D → Bool
  | .tup es => es.all scB
  | _ => false
def flB : List D → Bool
  | [.lst ds] => ds.all ptB
  | _ => false
section
variable {K : PySem.W.Frag} {T : Tab} {B : Option Addr} {M M' : Addr → Prop} {H : Hp}
end
@[simp] def itemEq (c : Nat) (C : Ctr) (fs gs : List D) (Q : Bool → Prop) : Prop := flB fs = true ∧ flB gs = true ∧ (fs = gs → Q true) ∧ C [.obj c fs, .obj c gs] fun sl => ∃ t : Bool, sl.d = .bl t ∧ Q t
@[simp] def fEqT (c : Nat) (C : Ctr) : DF2 := fun _ d _ d' Q => match d, d' with
  | .tup [.obj a1 f1, .obj a2 f2], .tup [.obj b1 g1, .obj b2 g2] => (a1 = c ∧ a2 = c ∧ b1 = c ∧ b2 = c) ∧ itemEq c C f1 g1 fun t => (t = true → itemEq c C f2 g2 fun t2 => Q (.v 2 (.bl t2))) ∧ (t = false → Q (.v 2 (.bl false)))
  | _, _ => False
end DL
/-! DN1: isinstance of an own class, own == with values of any kind; x in [y] of own instances. -/
namespace DQ
open PySem PySem.SeqAt
open AutoSeq1 (wpAny_loadPart')
open MeetsSeq MeetsSeq2 MeetsSeq3 SeqRoads2
section
variable {prog : Program} {w : World} {A : Around} {R : Result → Shared → Prop}
/-- what a list's walk asks from place i on -/
def InI (prog : Program) (w : World) (A : Around) (E : Value → Shared → Prop) (l : Addr) (x : Value) (N : Nat) (I : Nat → Shared → Prop) (T : Shared → Prop) : Prop := ∀ i s, I i s → ∃ (items : Array Value) (n : Nat), s.heap.get? l = some { cls := .type "list", dict := none, data := .seq items n, slots := #[] } ∧ items.size = N ∧
  ∀ h : i < items.size, wpAny (model prog w) A.in1 (eqBool items[i] x) (fun r s' => (r = true → T s') ∧ (r = false → I (i + 1) s')) E s
end
section
variable {prog : Program} {w : World} {A : Around} {E : Value → Shared → Prop} {s : Shared}
end
end DQ
/-! DN2: isinstance of an own class, own == with values of any kind, x in [y], over data. -/
namespace DL
open PySem PySem.Spec PyProof.Rows L2
/-- an own class beside values of built-in kinds -/
structure KndC (K : PySem.W.Frag) (C : Addr) : Prop where
  ins : ∀ n ∈ kinds, PySem.W.kitOne K (.type n) (.ref C) = some false
  sub : ∀ n ∈ kinds, PySem.W.subIn K (.type n) (.ref C) = some false
@[simp] theorem isKind_non : isKind .non = true := rfl
@[simp] theorem isKind_bl (b : Bool) : isKind (.bl b) = true := rfl
@[simp] theorem isKind_int (b : Int) : isKind (.int b) = true := rfl
@[simp] theorem isKind_str (b : Str) : isKind (.str b) = true := rfl
@[simp] theorem isKind_tup (ds : List D) : isKind (.tup ds) = true := rfl
@[simp] theorem isKind_lst (ds : List D) : isKind (.lst ds) = true := rfl
@[simp] theorem isKind_bag : isKind .bag = true := rfl
structure InsK (K : PySem.W.Frag) (C : Addr) : Prop where
  ic : C8.InsC K C
  kn : KndC K C
@[simp] def dIsW (c : Nat) (te : DTE) : DTE := fun τ Q => te τ fun s => match s.d with
  | .obj c' _ => c' = c ∧ Q (.v 2 (.bl true))
  | d => isKind d = true ∧ Q (.v 2 (.bl false))
section
variable {X : Cx} {T : Tab} {c : Nat} {e : Expr} {te : DTE} {y : Str} {p p1 pos : Pos}
end
/-! ### == with values of built-in kinds -/
def rEqN (K : PySem.W.Frag) (C : Addr) (sp : Sp) : R2 := fun x y H Q => ∃ a dx fs n, x = .ref a ∧ H a = some (.ins C dx fs) ∧ TyX K H y (.type n) ∧ n ∈ kinds ∧ sp [x, y] H (fun v H' => ∃ t : Bool, v = .bl t ∧ Q (.bl t) H') fun _ _ _ => True
section
variable {X : Cx}
end
@[simp] def fEqW (c : Nat) (C : Ctr) : DF2 := fun _ d _ d' Q => match d, d' with
  | .obj c1 fs, .obj c2 gs => (c1 = c ∧ c2 = c) ∧ C [.obj c fs, .obj c gs] fun sl => ∃ t : Bool, sl.d = .bl t ∧ Q (.v 2 (.bl t))
  | .obj c1 fs, d' => (c1 = c ∧ isKind d' = true) ∧ C [.obj c fs, d'] fun sl => ∃ t : Bool, sl.d = .bl t ∧ Q (.v 2 (.bl t))
  | _, _ => False
def fEqN (c : Nat) (C : Ctr) : DF2 := fun _ d _ d' Q => match d with
  | .obj c1 fs => (c1 = c ∧ isKind d' = true) ∧ C [.obj c fs, d'] fun sl => ∃ t : Bool, sl.d = .bl t ∧ Q (.v 2 (.bl t))
  | _ => False
section
variable {X : Cx} {T : Tab} {k c : Nat} {C : Ctr}
end
/-! ### x in [y] -/
def inO (K : PySem.W.Frag) (C : Addr) (sp : Sp) (l : Addr) (vs : List V) (x : V) (Q : Bool → Hp → Prop) : Nat → List V → Hp → Prop
  | _, [], H => H l = some (.lst vs) ∧ Q false H
  | i, y :: ys, H => H l = some (.lst vs) ∧ vs[i]? = some y ∧ EqI K C sp y x H fun t H' => (t = true → Q true H') ∧ (t = false → inO K C sp l vs x Q (i + 1) ys H')
def rInO (K : PySem.W.Frag) (C : Addr) (sp : Sp) : R2 := fun x y H Q => ∃ l vs, y = .ref l ∧ inO K C sp l vs x (fun t H' => Q (.bl t) H') 0 vs H
section
variable {X : Cx}
end
/-- one instance in a list of another one -/
@[simp] def fInO1 (c : Nat) (C : Ctr) : DF2 := fun _ d _ d' Q => match d, d' with
  | .obj c1 fs, .lst [.obj c2 gs] => (c1 = c ∧ c2 = c) ∧ itemEq c C gs fs fun t => Q (.v 2 (.bl t))
  | _, _ => False
end DL
/-! DF1: f-strings, str(int), repr of own instances, defs handing back what may change later. -/
namespace DL
open PySem PySem.Spec PyProof.Rows L2
/-- a number as a text -/
def numS (i : Int) : Str := Str.ofString (toString i)
theorem log_ok {i : Int} (h : i.natAbs < 2 ^ 200) : i.natAbs.log2 < 1920 := by
  by_cases z : i.natAbs = 0
  · rw [z]; decide
  · have : i.natAbs.log2 < 200 := (Nat.log2_lt z).mpr h
    omega
@[simp] theorem str_len_app (a b : Str) : (a ++ b).length = a.length + b.length := Str.length_append a b
@[simp] theorem empty_app (a : Str) : Str.empty ++ a = a := Str.empty_append a
@[simp] theorem strOk_app (a b : Str) : PyData.strOk (a ++ b) = (PyData.strOk a && PyData.strOk b) := by
  unfold PyData.strOk
  rw [Str.cps_append, Array.all_append]
theorem numS_nat (n : Nat) : numS (n : Int) = SX.S (TL.numL n) := SX.num_S n
@[simp] theorem strOk_num (n : Nat) : PyData.strOk (numS (n : Int)) = true := by
  rw [numS_nat]
  have h := TL.numL_digits n
  unfold PyData.strOk SX.S
  rw [List.all_toArray, List.all_eq_true]
  intro c hc
  have := h c hc
  simp
  omega
@[simp] def dFmt (te : DTE) : DTE := fun τ Q => te τ fun s => match s.d with
  | .str y => y.length ≤ 10000000 ∧ Q (.v 2 (.str y))
  | .int i => i.natAbs.log2 < 1920 ∧ Q (.v 2 (.str (numS i)))
  | _ => False
section
variable {X : Cx} {T : Tab} {e : Expr} {te : DTE} {pos : Pos}
theorem sizeLine_ge : 10000000 ≤ sizeLine := by rw [sizeLine_eq]; decide
theorem de_fmt (he : PE X e (UpE X.K T te)) : PE X (.FormattedValue e (-1) none pos) (UpE X.K T (dFmt te)) :=
  (pe_fmt he).of fun σ H Q ⟨S, τ, QD, sr, h, k⟩ => ⟨S, τ, _, sr, h, fun H1 v sl a r q => by
    have rg := r.g sr
    cases sd : sl.d with
    | str y =>
      rw [sd] at q rg
      have rg : v = .str y := rg
      exact .inl ⟨y, rg, Nat.le_trans q.1 sizeLine_ge, k H1 (.str y) (.v 2 (.str y)) a rfl q.2⟩
    | int i =>
      rw [sd] at q rg
      have rg : v = .int i := rg
      exact .inr ⟨i, rg, q.1, k H1 _ (.v 2 (.str (numS i))) a rfl q.2⟩
    | _ => rw [sd] at q; exact (show False from q).elim⟩
/-- the texts one behind the other -/
@[simp] def dJr : List DTE → Str → DSt → (Str → Prop) → Prop
  | [], acc, _, Q => Q acc
  | t :: ts, acc, τ, Q => t τ fun s => match s.d with
    | .str y => (acc ++ y).length ≤ 10000000 ∧ dJr ts (acc ++ y) τ Q
    | _ => False
@[simp] def dJs (ts : List DTE) : DTE := fun τ Q => dJr ts Str.empty τ fun out => Q (.v 2 (.str out))
inductive PJD (X : Cx) (T : Tab) : List Expr → List DTE → Prop where
  | nil : PJD X T [] []
  | cons {e : Expr} {t : DTE} {es : List Expr} {ts : List DTE} (h : PE X e (UpE X.K T t)) (r : PJD X T es ts) : PJD X T (e :: es) (t :: ts)
theorem PJD.up : ∀ {es : List Expr} {ts : List DTE}, PJD X T es ts → PJ X es (ts.map (UpE X.K T))
  | _, _, .nil => .nil
  | _, _, .cons h r => .cons h r.up
theorem jr_up {S : Sit} {τ : DSt} {σ : L2.St} {QD : Str → Prop} {Q : Str → Hp → Prop} : ∀ (ts : List DTE) (acc : Str) (H H0 : Hp), SR X.K T S τ σ H → Aft X.K T S H0 H → dJr ts acc τ QD → (∀ out H', Aft X.K T S H0 H' → QD out → Q out H') → tJs (ts.map (UpE X.K T)) acc σ H Q
  | [], acc, H, H0, sr, a, q, k => k acc H a q
  | t :: ts, acc, H, H0, sr, a, q, k => ⟨S, τ, _, sr, q, fun H1 v sl a1 r q1 => by
    have rg := r.g sr
    cases sd : sl.d with
    | str y =>
      rw [sd] at q1 rg
      have rg : v = .str y := rg
      exact ⟨y, rg, Nat.le_trans q1.1 sizeLine_ge, jr_up ts (acc ++ y) H1 H0 (sr.aft a1) (a.trans a1) q1.2 k⟩
    | _ => rw [sd] at q1; exact (show False from q1).elim⟩
theorem de_js {v1 v2 : Expr} {rest : List Expr} {ts : List DTE} (h : PJD X T (v1 :: v2 :: rest) ts) : PE X (.JoinedStr (v1 :: v2 :: rest) pos) (UpE X.K T (dJs ts)) :=
  (pe_joined h.up).of fun σ H Q ⟨S, τ, QD, sr, q, k⟩ => jr_up ts Str.empty H H sr sr.same q fun out H' a q' => k H' (.str out) (.v 2 (.str out)) a rfl q'
end
/-! ### str(int), repr -/
@[simp] def fStrI : DCB := fun _ ds Q => match ds with
  | [.int i] => i.natAbs.log2 < 1920 ∧ Q (.v 2 (.str (numS i)))
  | _ => False
theorem cb_strI {K : PySem.W.Frag} {T : Tab} : CBD K T (fun xs H Q => ∃ i, xs = [.int i] ∧ i.natAbs.log2 < 1920 ∧ Q (.str (toString i)) H) fStrI := by
  intro S τ σ H g ds vs QD Q sr r q k
  unfold fStrI at q
  split at q
  · rename_i i
    obtain ⟨v, rfl, r1⟩ := Reps.one' r
    have r1 : v = .int i := r1
    subst r1
    exact ⟨i, rfl, q.1, k H _ (.v 2 (.str (numS i))) sr.same rfl q.2⟩
  · exact q.elim
def rRepO (C : Addr) (sp : Sp) : List V → Hp → VK → Prop := fun xs H Q => ∃ a dx fs, xs = [.ref a] ∧ H a = some (.ins C dx fs) ∧ sp xs H (fun v H' => ∃ x : Str, v = .str x ∧ Q (.str x) H') fun _ _ _ => True
section
variable {X : Cx}
end
@[simp] def fRepO (c : Nat) (C : Ctr) : DCB := fun _ ds Q => match ds with
  | [.obj c' fs] => c' = c ∧ C [.obj c fs] fun sl => ∃ x : Str, sl.d = .str x ∧ Q (.v 2 (.str x))
  | _ => False
/-! ### what is handed back keeps the grade of what was given -/
@[simp] def dCall20 (C : Ctr) (ta : DTA) : DTE := fun τ Q => ta τ fun g ds => match g with
  | 0 => C ds (atV 0 Q)
  | 1 => C ds (atV 1 Q)
  | _ + 2 => C ds Q
end DL
/-! DLC2: comprehensions with two fors. -/
namespace DL
open PySem PySem.Spec PyProof.Rows L2
/-- the turns of the second for; behind them Z -/
@[simp] def innRec (g : Nat) (tg : DTG) (tt : DTT) (te : DTE) (τ : DSt) (Z : List D → Prop) : List D → List D → Prop
  | [], acc => Z acc
  | x :: xs, acc => tg (up g x) x τ fun τ1 => tt τ1 fun b => if b = true then te τ1 fun sl => (Nat.ble 2 sl.g || sl.d.imm) = true ∧ acc.length < 1000000 ∧ innRec g tg tt te τ Z xs (acc ++ [sl.d]) else innRec g tg tt te τ Z xs acc
@[simp] def compRec2 (g : Nat) (tg : DTG) (tt : DTT) (tl1 : DTE) (tg1 : DTG) (tt1 : DTT) (te : DTE) (vs1 : List Nat) (τ : DSt) (Q : Sl → Prop) : List D → List D → Prop
  | [], acc => Q (.own acc)
  | x :: xs, acc => tg (up g x) x τ fun τ1 => tt τ1 fun b => if b = true then tl1 τ1 fun sl => (1 ≤ sl.g ∧ ∃ es, elems sl.d = some es ∧ innRec sl.g tg1 tt1 te (wipeD τ1 vs1) (fun acc => compRec2 g tg tt tl1 tg1 tt1 te vs1 τ Q xs acc) es acc) else compRec2 g tg tt tl1 tg1 tt1 te vs1 τ Q xs acc
@[simp] def dLc2 (ts : DTE) (tg : DTG) (tt : DTT) (tl1 : DTE) (tg1 : DTG) (tt1 : DTT) (te : DTE) (vs vs1 : List Nat) : DTE := fun τ Q => ts τ fun sl => match elems sl.d with
  | some ds => compRec2 sl.g tg tt tl1 tg1 tt1 te vs1 (wipeD τ vs) Q ds []
  | none => False
def NoOwn (τ : DSt) (σ : L2.St) (p : Addr) : Prop := (∀ (j : Nat) (ds : List D), τ[j]? = some (.own ds) → σ[j]? ≠ some (some (.ref p))) ∧ ∀ (i : Nat) (g : SO), τ[i]? = some (.sto g) → ∀ o, g.g p ≠ some o
section
variable {K : PySem.W.Frag} {T : Tab} {S : Sit} {H1 : Hp} {L : Addr}
/-- what holds of a walked list while list L grows -/
structure Walk (K : PySem.W.Frag) (T : Tab) (S' : Sit) (J1 : It) (es : List D) (g1 : Nat) (L : Addr) (C1 : Hp → Prop) : Prop where
  go : ∀ i H', i < es.length → C1 H' → J1.go i H'
  yl : ∀ i H' x H'', C1 H' → J1.yld i H' x H'' → H'' = H' ∧ ∀ d, es[i]? = some d → RepG K T S' g1 H' d x
  st : ∀ H', C1 H' → J1.stop es.length H'
  kp : ∀ H H', Kp S'.P H H' → C1 H → C1 H'
end
/-! ### targets that bind no list of the frame's own -/
theorem NoOwn.set {τ : DSt} {σ : L2.St} {p : Addr} (h : NoOwn τ σ p) (i : Nat) {s : Sl} {x : Option V} (hs : ∀ ds, s ≠ .own ds) (hs2 : ∀ g, s ≠ .sto g := by intro g z; cases z) : NoOwn (τ.set i s) (σ.set i x) p := by
  refine ⟨fun j ds e => ?_, fun j g e => h.2 j g (set_sto hs2 e)⟩
  by_cases z : i = j
  · subst z
    rw [List.getElem?_set] at e
    rw [if_pos rfl] at e
    split at e
    · injection e with e
      exact absurd e (hs ds)
    · cases e
  · rw [List.getElem?_set_ne z] at e ⊢
    exact h.1 j ds e
theorem NoOwn.wiped {τ : DSt} {σ : L2.St} {p : Addr} (h : NoOwn τ σ p) : ∀ vs : List Nat, NoOwn (wipeD τ vs) (wipe σ vs) p
  | [] => h
  | i :: r => (NoOwn.wiped h r).set i fun ds z => by cases z
def UpGw2 (K : PySem.W.Frag) (T : Tab) (vs : List Nat) (t : DTG) : TG := fun v σ H Q => ∃ (S : Sit) (τ : DSt) (g : Nat) (d : D) (QD : DSt → Prop), SR K T S τ σ H ∧ RepG K T S g H d v ∧ t g d τ QD ∧ ∀ τ' σ', SR K T S τ' σ' H → wipe σ' vs = wipe σ vs → (∀ p, NoOwn τ σ p → NoOwn τ' σ' p) → QD τ' → Q σ' H
def UpGsw2 (K : PySem.W.Frag) (T : Tab) (vs : List Nat) (t : DTGs) : TGs := fun us σ H Q => ∃ (S : Sit) (τ : DSt) (g : Nat) (ds : List D) (QD : DSt → Prop), SR K T S τ σ H ∧ RepsG K T S g H ds us ∧ t g ds τ QD ∧ ∀ τ' σ', SR K T S τ' σ' H → wipe σ' vs = wipe σ vs → (∀ p, NoOwn τ σ p → NoOwn τ' σ' p) → QD τ' → Q σ' H
section
variable {X : Cx} {T : Tab} {pos : Pos} {i : Nat} {x : Str} {vs : List Nat}
end
/-! ### both -/
section
variable {X : Cx} {T : Tab}
variable {elt tg iter tg1 iter1 : Expr} {ifs ifs1 : List Expr} {scope : Scope} {own : List (Str × Nat)} {vs1 : List Nat} {pos : Pos} {tl tl1 : DTE} {tgd tgd1 : DTG} {tt tt1 : DTT} {te : DTE}
end
end DL
/-! DV1: defs with *args alone, called with written arguments. -/
namespace DL
open PySem PySem.Spec PyProof.Rows L2
section
variable {X : Cx} {CX : CXT} {k : Nat} {f : Addr} {sp : Sp} {E : XK} {x : Str} {p pos : Pos} {e : Expr} {es : List Expr} {t : TA}
end
/-- the promise of the body, the arguments as one tuple -/
def bodyC (C : Ctr) : Ctr := fun ds Q => ∃ es, ds = [.tup es] ∧ C es Q
def bodyX (C : CtrX) : CtrX := fun ds Q R => ∃ es, ds = [.tup es] ∧ C es Q R
section
variable {P : Program} {w : World} {K : PySem.W.Frag} {T : Tab} {mg : Str → Option Value} {base : Heap} {x qual : Str} {params : Arguments} {body : List Stmt} {scope : Scope} {f : Addr} {fd : FuncData} {N : List Str} {k : Nat} {pv : Str}
/-- the same without the second way out -/
theorem FnR.calm {sp : Sp} (F : FnR P w K mg base (L2.CX P w) k f sp) : FnR P w K mg base CX0 k f (fun vs H Q _ => sp vs H Q fun _ _ _ => False) := fun A outer s H us vs Q E hr e0 r h => codeAny_mono (F A outer s H us vs Q _ hr e0 r h) fun r s' hq => by
  cases r with
  | error e =>
    obtain ⟨_, _, _, _, _, _, _, _, _, _, _, _, z⟩ := hq
    exact z.elim
  | ok fl => cases fl <;> exact hq
end
structure FnV (P : Program) (w : World) (K : PySem.W.Frag) (T : Tab) (mg : Str → Option Value) (base : Heap) (x : Str) (k : Nat) (C : Ctr) : Prop where
  ex : ∃ f : Addr, mg x = some (.ref f) ∧ PySem.W.keepIn K (.ref f) = true ∧ FnR P w K mg base CX0 k f (spC K T C)
structure FnXV (P : Program) (w : World) (K : PySem.W.Frag) (T : Tab) (mg : Str → Option Value) (base : Heap) (x : Str) (k : Nat) (C : CtrX) : Prop where
  ex : ∃ f : Addr, mg x = some (.ref f) ∧ PySem.W.keepIn K (.ref f) = true ∧ FnR P w K mg base (L2.CX P w) k f (spX K T mg C)
theorem FnXV.calm {P : Program} {w : World} {K : PySem.W.Frag} {T : Tab} {mg : Str → Option Value} {base : Heap} {x : Str} {k : Nat} {C : CtrX} {C' : Ctr} (F : FnXV P w K T mg base x k C) (h : ∀ ds Q, C' ds Q → C ds Q fun _ => False) : FnV P w K T mg base x k C' := by
  obtain ⟨f, h1, h2, h6⟩ := F.ex
  refine ⟨f, h1, h2, (FnR.calm h6).imp fun vs H Q E z => spC_X (E := E) ?_⟩
  obtain ⟨B, L, M, ds, QD, bag, hm, r, q, kk⟩ := z
  exact ⟨B, L, M, ds, QD, bag, hm, r, h ds QD q, kk⟩
section
variable {X : Cx} {T : Tab} {k : Nat} {C : Ctr} {Cq : CtrX} {E : XK} {x : Str} {p pos : Pos} {e : Expr} {es : List Expr} {t : DTA}
end
end DL
/-! DST: a, *rest = a tuple; s.partition. -/
namespace DL
open PySem PySem.Spec PyProof.Rows L2 PySem.W PySem.Calls
section
variable {X : Cx} {T : Tab} {pos : Pos}
def gStar (K : PySem.W.Frag) (n i : Nat) (t : TGs) : TG := fun v σ H Q => ∃ a xs, v = .ref a ∧ SqT K H a xs ∧ i < n ∧ n ≤ xs.length + 1 ∧ xs.length ≤ 16384 ∧ ∀ p, H p = none → t (xs.take i ++ [.ref p] ++ (xs.drop i).drop (xs.length + 1 - n)) σ (upd H p (.lst ((xs.drop i).take (xs.length + 1 - n)))) Q
@[simp] def gStar2 (i j : Nat) : DTG := fun _ d τ Q => match d with
  | .tup (x :: ds) => ds.length ≤ 16000 ∧ immAll (x :: ds) = true ∧ Q ((τ.set i (.v 2 x)).set j (.v 2 (.lst ds)))
  | _ => False
@[simp] def dPart (te : DTE) (ts : DTE) : DTE := fun τ Q => te τ fun s => match s.d with
  | .str a => ts τ fun s2 => match s2.d with
    | .str b => (b.length == 0) = false ∧ a.length ≤ 1000000 ∧ Q (.v 2 (.tup [.str (Txt.partition a b).1, .str (Txt.partition a b).2.1, .str (Txt.partition a b).2.2]))
    | _ => False
  | _ => False
end
end DL
/-! DTx: texts as data: len, one sign in a text, a sign of it, split, join, int(text), comprehensions over a text, str of own instances; a last case with a guard; a try that nothing leaves. -/
namespace DL
open PySem PySem.Spec PyProof.Rows L2
/-! ### len, in, index, int -/
@[simp] def fLenS : DCB := fun _ ds Q => match ds with
  | [.str z] => z.length ≤ 1000000 ∧ Q (.v 2 (.int (z.length : Nat)))
  | _ => False
@[simp] def fInS : DF2 := fun _ d _ d' Q => match d, d' with
  | .str x, .str z => ∃ c, x = ⟨#[c]⟩ ∧ Q (.v 2 (.bl (decide (c ∈ z.cps.toList))))
  | _, _ => False
@[simp] def fIxS : DF2 := fun _ d _ d' Q => match d, d' with
  | .str z, .int i => z.length ≤ 1000000 ∧ ∃ c, L2.atI z.cps.toList i = some c ∧ Q (.v 2 (.str ⟨#[c]⟩))
  | _, _ => False
@[simp] def fIntS : DCB := fun _ ds Q => match ds with
  | [.str a] => ∃ n, PySem.intText? a = some n ∧ a.length ≤ 640 ∧ Q (.v 2 (.int n))
  | _ => False
section
variable {K : PySem.W.Frag} {T : Tab}
theorem cb_lenS : CBD K T (fun xs H Q => ∃ z, xs = [.str z] ∧ z.length ≤ sizeLine ∧ Q (.int z.length) H) fLenS := by
  intro S τ σ H g ds vs QD Q sr r q k
  unfold fLenS at q
  split at q
  · rename_i z
    obtain ⟨v, rfl, r1⟩ := Reps.one' r
    have r1 : v = .str z := r1
    subst r1
    exact ⟨z, rfl, lim_le' q.1, k H _ (.v 2 (.int (z.length : Nat))) sr.same rfl q.2⟩
  · exact q.elim
theorem cb_intS : CBD K T (fun xs H Q => ∃ a n, xs = [.str a] ∧ PySem.intText? a = some n ∧ a.length ≤ 640 ∧ Q (.int n) H) fIntS := by
  intro S τ σ H g ds vs QD Q sr r q k
  unfold fIntS at q
  split at q
  · rename_i a
    obtain ⟨v, rfl, r1⟩ := Reps.one' r
    have r1 : v = .str a := r1
    subst r1
    obtain ⟨n, h1, h2, q⟩ := q
    exact ⟨a, n, rfl, h1, h2, k H _ (.v 2 (.int n)) sr.same rfl q⟩
  · exact q.elim
theorem r2_inS : R2D K T (fun x y H Q => ∃ (c : Nat) (z : Str), x = .str ⟨#[c]⟩ ∧ y = .str z ∧ Q (.bl (decide (c ∈ z.cps.toList))) H) fInS := by
  intro S τ σ H g d g' d' v u QD Q sr r1 r2 q k
  unfold fInS at q
  split at q
  · rename_i x z
    obtain ⟨c, rfl, q⟩ := q
    exact ⟨c, z, r1, r2, k H _ (.v 2 (.bl _)) sr.same rfl q⟩
  · exact q.elim
theorem r2_ixS : R2D K T rIxS fIxS := by
  intro S τ σ H g d g' d' v u QD Q sr r1 r2 q k
  unfold fIxS at q
  split at q
  · rename_i z i
    obtain ⟨h0, c, h1, q⟩ := q
    exact ⟨z, i, c, r1, r2, lim_le' h0, h1, k H _ (.v 2 (.str _)) sr.same rfl q⟩
  · exact q.elim
end
section
variable {X : Cx} {T : Tab} {a b : Expr} {ta tb : DTE} {pos : Pos}
theorem de_ixS (ha : PE X a (UpE X.K T ta)) (hb : PE X b (UpE X.K T tb)) (hs : PlainIx b) : PE X (.Subscript a b pos) (UpE X.K T (dOp fIxS ta tb)) := de_ix ix_str r2_ixS ha hb hs
end
/-! ### split, join -/
@[simp] def strsD : List D → Option (List Str)
  | [] => some []
  | .str x :: r => (strsD r).map (x :: ·)
  | _ :: _ => none
@[simp] theorem strsD_map (l : List Str) : strsD (l.map D.str) = some l := by
  induction l with
  | nil => rfl
  | cons x l ih => simp [ih]
theorem strsD_rep {K : PySem.W.Frag} {T : Tab} {B : Option Addr} {M : Addr → Prop} {H : Hp} : ∀ {ds : List D} {ys : List Str} {vs : List V}, strsD ds = some ys → Reps K T B M H ds vs → vs = ys.map V.str
  | [], ys, vs, e, r => by
    have e : ys = [] := by simpa using e.symm
    subst e
    exact r
  | d :: ds, ys, vs, e, r => by
    cases d with
    | str x =>
      obtain ⟨v, w, rfl, r1, r2⟩ := r
      simp only [strsD, Option.map_eq_some_iff] at e
      obtain ⟨l, e1, rfl⟩ := e
      rw [strsD_rep e1 r2, show v = V.str x from r1] <;> rfl
    | _ => cases e
theorem reps_strs {K : PySem.W.Frag} {T : Tab} {B : Option Addr} {M : Addr → Prop} {H : Hp} : ∀ ys : List Str, Reps K T B M H (ys.map D.str) (ys.map V.str)
  | [] => rfl
  | y :: ys => ⟨.str y, ys.map V.str, rfl, rfl, reps_strs ys⟩
@[simp] def dSplit (te ts : DTE) : DTE := fun τ Q => te τ fun s => match s.d with
  | .str a => ts τ fun s2 => match s2.d with
    | .str b => (b.length == 0) = false ∧ a.length ≤ 100000 ∧ Q (.own ((Txt.split a b).map D.str))
    | _ => False
  | _ => False
@[simp] def dJoin (te ts : DTE) : DTE := fun τ Q => te τ fun s => match s.d with
  | .str a => ts τ fun s2 => match elems s2.d with
    | some ds => ∃ ys, strsD ds = some ys ∧ (ys.map (·.length)).sum + ys.length * a.length ≤ 16777216 ∧ Q (.v 2 (.str (Txt.join a ys)))
    | none => False
  | _ => False
section
variable {X : Cx} {T : Tab} {o e : Expr} {to ts : DTE} {apos pos : Pos}
theorem de_split (ho : PE X o (UpE X.K T to)) (he : PE X e (UpE X.K T ts)) (hs : starEach [e] X.env = [(false, eval e X.env)] := by rfl) (hbase : attributeBase o "split" X.env (eval o X.env) = eval o X.env := by rfl) (hline : (apos.endLine == pos.line) = true := by rfl) :
    PE X (.Call (.Attribute o "split" apos) [e] [] pos) (UpE X.K T (dSplit to ts)) :=
  (pe_split ho he hs hbase hline).of fun σ H Q ⟨S, τ, QD, sr, h, k⟩ => ⟨S, τ, _, sr, h, fun H1 v x a1 r1 q1 => by
    have r1 := r1.g sr
    split at q1
    · rename_i a ea
      rw [ea] at r1
      refine ⟨⟨a, r1⟩, S, τ, _, sr.aft a1, q1, fun H2 u y a2 r2 q2 => ?_⟩
      have r2 := r2.g (sr.aft a1)
      split at q2
      · rename_i b eb
        rw [eb] at r2
        obtain ⟨hb, hl, q2⟩ := q2
        refine ⟨a, b, r1, by rw [show u = .str b from r2], hb, lim_le' (by omega), fun p hp => ?_⟩
        have s2 := (sr.aft a1).aft a2
        have a3 := s2.laid (o := .lst ((Txt.split a b).map V.str)) hp
        have rr : RepSl X.K T S H2 (upd H2 p (.lst ((Txt.split a b).map V.str))) (.own ((Txt.split a b).map D.str)) (.ref p) :=
          RepSl.mkL (g := 2) s2 hp upd_same (Kp.laid hp) (show RepsG X.K T S 2 H2 _ _ from reps_strs _)
        exact k _ _ _ (a1.trans (a2.trans a3)) (rr.back (a1.trans a2)) q2
      · exact q2.elim
    · exact q1.elim⟩
theorem de_join (ho : PE X o (UpE X.K T to)) (he : PE X e (UpE X.K T ts)) (hs : starEach [e] X.env = [(false, eval e X.env)] := by rfl) (hbase : attributeBase o "join" X.env (eval o X.env) = eval o X.env := by rfl) (hline : (apos.endLine == pos.line) = true := by rfl) :
    PE X (.Call (.Attribute o "join" apos) [e] [] pos) (UpE X.K T (dJoin to ts)) :=
  (pe_join ho he hs hbase hline).of fun σ H Q ⟨S, τ, QD, sr, h, k⟩ => ⟨S, τ, _, sr, h, fun H1 v x a1 r1 q1 => by
    have r1 := r1.g sr
    split at q1
    · rename_i a ea
      rw [ea] at r1
      refine ⟨⟨a, r1⟩, S, τ, _, sr.aft a1, q1, fun H2 u y a2 r2 q2 => ?_⟩
      have r2 := r2.g (sr.aft a1)
      split at q2
      · rename_i ds eb
        obtain ⟨ys, h1, h2, q2⟩ := q2
        obtain ⟨p, vs, rfl, hq, rs⟩ := Rep.el r2 eb
        have ev := strsD_rep h1 rs
        subst ev
        exact ⟨a, p, ys, r1, rfl, hq, h2, k H2 (.str (Txt.join a ys)) (.v 2 (.str (Txt.join a ys))) (a1.trans a2) rfl q2⟩
      · exact q2.elim
    · exact q1.elim⟩
end
/-! ### comprehensions over a text -/
def signsD (x : Str) : List D := x.cps.toList.map fun c => D.str ⟨#[c]⟩
@[simp] def dLcS (ts : DTE) (tg : DTG) (tt : DTT) (te : DTE) (vs : List Nat) : DTE := fun τ Q => ts τ fun sl => match sl.d with
  | .str x => compRec 2 tg tt te (wipeD τ vs) Q (signsD x) []
  | _ => False
theorem lc_upS {tl : DTE} {tgd : DTG} {tt : DTT} {te : DTE} {vs : List Nat} {σ : L2.St} {H : Hp} {Q : VK} {K : PySem.W.Frag} {T : Tab} (h : UpE K T (dLcS tl tgd tt te vs) σ H Q) : tLc (iStr (UpE K T tl)) (UpGw K T vs tgd) (UpT K T tt) (UpE K T te) vs σ H Q := by
  obtain ⟨S, τ, QD, sr, h, k⟩ := h
  refine ⟨S, τ, _, sr, h, fun H1 v sl a r q => ?_⟩
  have rg := r.g sr
  split at q
  · rename_i x ex
    rw [ex] at rg
    have rg : v = .str x := rg
    refine ⟨x, rg, fun L hL => ?_⟩
    have hl : (signsD x).length = x.cps.size := by simp [signsD]
    exact lc_core' (g := 2) (C := fun _ => True) (sr.aft a) hL (fun _ _ => trivial) (fun i H' hi _ => by rw [hl] at hi; exact hi) (fun i H' y H'' _ z => ⟨z.1, fun d hd => by
      obtain ⟨_, c, e1, rfl⟩ := z
      have : d = D.str ⟨#[c]⟩ := by
        unfold signsD at hd
        rw [List.getElem?_map, Array.getElem?_toList, e1] at hd
        exact (Option.some.inj hd).symm
      rw [this]
      exact rfl⟩) (fun H' _ => by show x.cps.size ≤ (signsD x).length; rw [hl]; exact Nat.le_refl _) q fun H' w sl' a' r' q' => k H' w sl' (a.trans a') (r'.back a) q'
  · exact q.elim
/-! ### str of own instances -/
section
variable {X : Cx}
end
/-! ### a last case with a guard, a try that nothing leaves -/
section
variable {X : Cx} {T : Tab}
@[simp] def dThen (tt : DTT) (tb : DTS) : DTS := fun E τ => tt τ fun b => if b = true then tb E τ else E.nx τ
end
end DL
/-! DTx2: a, *rest = a list of texts; *rest, a = one; a text times an int. -/
namespace DL
open PySem PySem.Spec PyProof.Rows L2 PySem.W PySem.Calls
theorem unp_starL {prog : Program} {w : World} {A : Around} {E : Value → Shared → Prop} {s : Shared} {l : Addr} {items : Array Value} {n i : Nat} {Q : List Value → Shared → Prop} (hl : s.heap.IsList l items) (hh : A.handled = none) (hi : i < n) (hn : n ≤ items.size + 1) (hz : items.size ≤ 16384)
    (h : ∀ (h₂ : Heap) (tk : Nat), (∀ b o, s.heap.get? b = some o → h₂.get? b = some o) → Q (items.toList.take i ++ [.ref h₂.objs.size] ++ (items.toList.drop i).drop (items.size + 1 - n)) { s with heap := h₂.push { cls := .type "list", data := .seq ((items.toList.drop i).take (items.size + 1 - n)).toArray }, toks := tk }) :
    wpAny (model prog w) A (unpackItems (.ref l) n (some i)) Q E s := by
  have hlt : l ≠ s.heap.objs.size := by obtain ⟨o, ho, _⟩ := hl; exact Nat.ne_of_lt (Heap.lt_size ho)
  have hll : l < s.heap.objs.size := by obtain ⟨o, ho, _⟩ := hl; exact Heap.lt_size ho
  unfold unpackItems
  refine wpAny_bind ?_
  unfold notIterableAtAll
  refine wpAny_bind (wpAny_specialOf hl.typeIs slot_list_iter.lookup ?_)
  refine wpAny_pure ?_
  simp only [Bool.false_eq_true, if_false]
  refine wpAny_bind (wpAny_holding (wpAny_pyIter_list hl ?_))
  refine wpAny_bind (wpAny_holding (kun_draw hlt i 0 _ _ ⟨_, Heap.get?_push_size _ rfl, rfl, rfl⟩ (hl.push _) (by omega) fun h₁ hit₁ hs₁ => ?_))
  have hl₁ : h₁.IsList l items := (hl.push _).extBut hs₁.extBut hlt
  rw [Nat.zero_add] at hit₁
  have hit₁' := hit₁
  obtain ⟨oi, hoi, _⟩ := hit₁'
  have hl₁' := hl₁
  obtain ⟨ol, hol, _⟩ := hl₁'
  rw [List.drop_zero]
  have hfl : (items.toList.take i).length = i := by rw [List.length_take, Array.length_toList]; omega
  rw [if_neg (show ¬ ((items.toList.take i).length < i) by rw [hfl]; omega)]
  refine wpAny_bind (wpAny_holding (kun_collect (s := { s with heap := h₁ }) (T := "list_iterator") (.inr (.inr (.inl rfl))) (Walks.list (A := A.in1) hh s.heap.objs.size l hlt items) (fun j u st => st.1.typeIs) (k := i) (by omega) ⟨hit₁, hl₁⟩ (Heap.lt_size hoi) (Heap.lt_size hol) (fun h₂ tk hk => ?_) (by rw [sizeLine_eq]; omega)))
  have hrl : (items.toList.drop i).length = items.size - i := by rw [List.length_drop, Array.length_toList]
  have hmid : (items.toList.drop i).length - (n - 1 - i) = items.size + 1 - n := by rw [hrl]; omega
  show wpAny _ _ (if (items.toList.drop i).length < n - 1 - i then _ else _) _ _ _
  rw [if_neg (by rw [hrl]; omega)]
  show wpAny _ _ (newList ((items.toList.drop i).take ((items.toList.drop i).length - (n - 1 - i))) >>= fun d => pure (items.toList.take i ++ [d] ++ (items.toList.drop i).drop ((items.toList.drop i).length - (n - 1 - i)))) _ _ _
  rw [hmid]
  have he : ∀ b o, s.heap.get? b = some o → h₂.get? b = some o := fun b o e => hk b o (Nat.ne_of_lt (Heap.lt_size e)) (hs₁.extBut b o (Nat.ne_of_lt (Heap.lt_size e)) (Heap.get?_push_of_some _ e))
  exact wpAny_bind (wpAny_newList (s := { s with heap := h₂, toks := tk }) (wpAny_pure (h h₂ tk he)) (by rw [List.length_take, hrl, sizeLine_eq]; omega))
section
variable {X : Cx} {T : Tab} {pos : Pos}
def gStarL (K : PySem.W.Frag) (n i : Nat) (t : TGs) : TG := fun v σ H Q => ∃ a xs, v = .ref a ∧ SqL K H a xs ∧ i < n ∧ n ≤ xs.length + 1 ∧ xs.length ≤ 16384 ∧ ∀ p, H p = none → t (xs.take i ++ [.ref p] ++ (xs.drop i).drop (xs.length + 1 - n)) σ (upd H p (.lst ((xs.drop i).take (xs.length + 1 - n)))) Q
theorem pg_starL {es es' : List Expr} {k : Nat} {t : TGs} {n i : Nat} (hc : X.calm = true) (h : PGs X es' t) (he : (assignEach es X.env).map (·.2) = (assignEach es' X.env).map (·.2) := by rfl)
    (hn : (assignEach es X.env).length = n := by rfl) (hst : (assignEach es X.env).findIdx? (·.1) = some i := by rfl) : PG X (.Tuple es k pos) (gStarL X.K n i t) := by
  refine ⟨fun pins s σ H v u Q I r hw => ?_⟩
  obtain ⟨a, xs, e1, hq, h1, h2, h3, hw⟩ := hw
  subst e1
  cases r
  obtain ⟨its, rv, ht, hz⟩ := I.list hq
  have ht := ht.isList
  have hsz : its.toArray.size = xs.length := by rw [List.size_toArray, rv.length]
  rw [PyProof.Rows.assign_Tuple]
  refine wpAny_bind (wpAny_standAt ?_)
  unfold unpack
  rw [hn, hst, he]
  refine wpAny_bind (wpAny_holding (unp_starL ht (I.ok.hd hc) h1 (by omega) (by omega) fun h₂ tk hk => ?_))
  rw [hsz]
  have I1 : Inv X pins σ H { s with heap := h₂, toks := tk } := I.kept hk
  have I2 : Inv X pins σ (upd H h₂.objs.size (.lst ((xs.drop i).take (xs.length + 1 - n)))) { s with heap := h₂.push { cls := .type "list", data := .seq ((its.drop i).take (xs.length + 1 - n)).toArray }, toks := tk } :=
    I1.laid (t' := tk) (fun b ob q => Heap.get?_push_of_some _ q) (Nat.le_refl _) ⟨by rw [List.length_take, List.length_drop, sizeLine_eq]; omega, _, 0, (rv.drop i).take _, Heap.get?_push_size _ rfl⟩
  exact h.run pins _ σ _ _ _ Q I2 (((rv.take i).append (show L2.Vals [V.ref h₂.objs.size] [Value.ref h₂.objs.size] from .cons rfl .nil)).append ((rv.drop i).drop _)) (hw _ (I1.hok.fresh (Nat.le_refl _)))
/-- a, *rest = a list -/
@[simp] def gStar2L (i j : Nat) : DTG := fun _ d τ Q => match d with
  | .lst (x :: ds) => ds.length ≤ 16000 ∧ immAll (x :: ds) = true ∧ Q ((τ.set i (.v 2 x)).set j (.v 2 (.lst ds)))
  | _ => False
theorem dg_star2L {x y : Str} {i j k1 : Nat} {p1 p2 p3 : Pos} (hc : X.calm = true) (hN : X.N.Nodup) (hi : X.N[i]? = some x) (hj : X.N[j]? = some y) (hx : Loc X.env.scope x) (hy : Loc X.env.scope y)
    (fx : X.fn x = true ∨ X.env.scope.names.lookup x = some .local := by first | exact .inl rfl | exact .inr rfl | assumption) (fy : X.fn y = true ∨ X.env.scope.names.lookup y = some .local := by first | exact .inl rfl | exact .inr rfl | assumption)
    (he : (assignEach [.Name x p1, .Starred (.Name y p2) p3] X.env).map (·.2) = (assignEach [.Name x p1, .Name y p2] X.env).map (·.2) := by rfl)
    (hn : (assignEach [.Name x p1, .Starred (.Name y p2) p3] X.env).length = 2 := by rfl) (hst : (assignEach [.Name x p1, .Starred (.Name y p2) p3] X.env).findIdx? (·.1) = some 1 := by rfl) :
    PG X (.Tuple [.Name x p1, .Starred (.Name y p2) p3] k1 pos) (UpG X.K T (gStar2L i j)) :=
  ⟨fun pins s σ H v u Q I r ⟨S, τ, g, d, QD, sr, rp, hw, k⟩ => (pg_starL (es' := [.Name x p1, .Name y p2]) hc (pgs_cons (pg_name hN hi hx fx) (pgs_cons (pg_name hN hj hy fy) pgs_nil)) he hn hst).run pins s σ H v u Q I r (by
    unfold gStar2L at hw
    split at hw
    · rename_i x0 ds
      obtain ⟨hl, hi2, hw⟩ := hw
      obtain ⟨a, vs, e1, e2, e2b, rs⟩ := rp
      obtain ⟨v0, vr, ev, r0, rr⟩ := rs
      subst ev
      have lr := rr.len
      simp only [immAll, Bool.and_eq_true] at hi2
      refine ⟨a, _, e1, SqL.of e2, by decide, by simp, by simp; omega, fun p hp => ?_⟩
      have ee : (v0 :: vr).length + 1 - 2 = vr.length := by simp
      rw [ee]
      have e3 : List.take 1 (v0 :: vr) ++ [V.ref p] ++ ((v0 :: vr).drop 1).drop vr.length = [v0, .ref p] := by simp
      have e4 : ((v0 :: vr).drop 1).take vr.length = vr := by simp
      rw [e3, e4]
      have a1 : Aft X.K T S H (upd H p (.lst vr)) := sr.laid hp
      have s1 := sr.aft a1
      have r1 : RepG X.K T S 2 (upd H p (.lst vr)) x0 v0 := Rep.imm _ _ hi2.1 (sr.rep a1.kp r0)
      have s2 := s1.setV (i := i) (g := 2) (d := x0) (by decide) r1
      have rl : RepsG X.K T S 2 H ds vr := Reps.imm _ _ hi2.2 rr
      have r2 : RepG X.K T S 2 (upd H p (.lst vr)) (.lst ds) (.ref p) := (RepSl.mkL sr hp upd_same (Kp.laid hp) rl).g sr
      have s3 := s2.setV (i := j) (g := 2) (d := .lst ds) (by decide) r2
      refine ⟨v0, _, rfl, ?_⟩
      show ∃ v r, [V.ref p] = v :: r ∧ _
      exact ⟨.ref p, [], rfl, rfl, k _ _ _ s3 (Kp.laid hp) hw⟩
    · exact hw.elim)⟩
/-- *rest, a = a list -/
@[simp] def gStarF (i j : Nat) : DTG := fun _ d τ Q => match d with
  | .lst es => ∃ ds x, es = ds ++ [x] ∧ ds.length ≤ 16000 ∧ immAll es = true ∧ Q ((τ.set i (.v 2 (.lst ds))).set j (.v 2 x))
  | _ => False
theorem reps_snoc {K : PySem.W.Frag} {T : Tab} {B : Option Addr} {M : Addr → Prop} {H : Hp} {x0 : D} : ∀ {ds : List D} {vs : List V}, Reps K T B M H (ds ++ [x0]) vs → ∃ vr v0, vs = vr ++ [v0] ∧ Reps K T B M H ds vr ∧ Rep K T B M H x0 v0
  | [], vs, ⟨v, r, e, h1, h2⟩ => ⟨[], v, by rw [e, show r = [] from h2]; rfl, rfl, h1⟩
  | d :: ds, vs, ⟨v, r, e, h1, h2⟩ => by
    obtain ⟨vr, v0, e2, h3, h4⟩ := reps_snoc h2
    exact ⟨v :: vr, v0, by rw [e, e2]; rfl, ⟨v, vr, rfl, h1, h3⟩, h4⟩
theorem imm_snoc {x : D} : ∀ {xs : List D}, immAll (xs ++ [x]) = true → immAll xs = true ∧ x.imm = true
  | [], h => by
    simp only [List.nil_append, immAll, Bool.and_eq_true] at h
    exact ⟨rfl, h.1⟩
  | y :: xs, h => by
    simp only [List.cons_append, immAll, Bool.and_eq_true] at h ⊢
    obtain ⟨i1, i2⟩ := imm_snoc h.2
    exact ⟨⟨h.1, i1⟩, i2⟩
theorem dg_starF {x y : Str} {i j k1 : Nat} {p1 p2 p3 : Pos} (hc : X.calm = true) (hN : X.N.Nodup) (hi : X.N[i]? = some x) (hj : X.N[j]? = some y) (hx : Loc X.env.scope x) (hy : Loc X.env.scope y)
    (fx : X.fn x = true ∨ X.env.scope.names.lookup x = some .local := by first | exact .inl rfl | exact .inr rfl | assumption) (fy : X.fn y = true ∨ X.env.scope.names.lookup y = some .local := by first | exact .inl rfl | exact .inr rfl | assumption)
    (he : (assignEach [.Starred (.Name x p2) p3, .Name y p1] X.env).map (·.2) = (assignEach [.Name x p2, .Name y p1] X.env).map (·.2) := by rfl)
    (hn : (assignEach [.Starred (.Name x p2) p3, .Name y p1] X.env).length = 2 := by rfl) (hst : (assignEach [.Starred (.Name x p2) p3, .Name y p1] X.env).findIdx? (·.1) = some 0 := by rfl) :
    PG X (.Tuple [.Starred (.Name x p2) p3, .Name y p1] k1 pos) (UpG X.K T (gStarF i j)) :=
  ⟨fun pins s σ H v u Q I r ⟨S, τ, g, d, QD, sr, rp, hw, k⟩ => (pg_starL (es' := [.Name x p2, .Name y p1]) hc (pgs_cons (pg_name hN hi hx fx) (pgs_cons (pg_name hN hj hy fy) pgs_nil)) he hn hst).run pins s σ H v u Q I r (by
    unfold gStarF at hw
    split at hw
    · rename_i es
      obtain ⟨ds, x0, rfl, hl, hi2, hw⟩ := hw
      obtain ⟨a, vs, e1, e2, e2b, rs⟩ := rp
      have lr := rs.len
      obtain ⟨vr, v0, rfl, rr, r0⟩ := reps_snoc rs
      have lr2 := rr.len
      obtain ⟨hi3, hi4⟩ := imm_snoc hi2
      refine ⟨a, _, e1, SqL.of e2, by decide, by simp, by simp; omega, fun p hp => ?_⟩
      have ee : (vr ++ [v0]).length + 1 - 2 = vr.length := by simp
      rw [ee]
      have e3 : List.take 0 (vr ++ [v0]) ++ [V.ref p] ++ ((vr ++ [v0]).drop 0).drop vr.length = [.ref p, v0] := by simp
      have e4 : ((vr ++ [v0]).drop 0).take vr.length = vr := by simp
      rw [e3, e4]
      have a1 : Aft X.K T S H (upd H p (.lst vr)) := sr.laid hp
      have s1 := sr.aft a1
      have r1 : RepG X.K T S 2 (upd H p (.lst vr)) x0 v0 := Rep.imm _ _ hi4 (sr.rep a1.kp r0)
      have rl : RepsG X.K T S 2 H ds vr := Reps.imm _ _ hi3 rr
      have r2 : RepG X.K T S 2 (upd H p (.lst vr)) (.lst ds) (.ref p) := (RepSl.mkL sr hp upd_same (Kp.laid hp) rl).g sr
      have s2 := s1.setV (i := i) (g := 2) (d := .lst ds) (by decide) r2
      have s3 := s2.setV (i := j) (g := 2) (d := x0) (by decide) r1
      refine ⟨.ref p, _, rfl, ?_⟩
      show ∃ v r, [v0] = v :: r ∧ _
      exact ⟨v0, [], rfl, rfl, k _ _ _ s3 (Kp.laid hp) hw⟩
    · exact hw.elim)⟩
end
/-! ### a text times an int -/
def repS (x : Str) (n : Nat) : Str := ⟨(List.replicate n x.cps).foldl (· ++ ·) #[]⟩
def rRepS : R2 := fun x y H Q => ∃ z k, x = .str z ∧ y = .int k ∧ 2 ≤ k ∧ k < 100000 ∧ 1 ≤ z.length ∧ z.length ≤ 100 ∧ (repS z k.toNat).length ≤ 10000000 ∧ Q (.str (repS z k.toNat)) H
theorem op_repS {X : Cx} : OpR X (binaryOp .Mult) rRepS := by
  intro pins s σ H x y v u Q I rx ry h
  obtain ⟨z, k, rfl, rfl, h1, h2, h3, h4, h5, q⟩ := h
  obtain ⟨t, rfl⟩ := rx
  obtain ⟨t', rfl⟩ := ry
  have hm : z.length * k.toNat ≤ 100 * 100000 := Nat.mul_le_mul h4 (by omega)
  refine PySem.P.mul_str ?_ (fun _ _ => ?_) (fun _ _ => ?_) ?_
  · rw [decide_eq_false (by omega), decide_eq_false (by omega)] <;> rfl
  · have : (9223372036854775807 : Int) / 100000 ≤ 9223372036854775807 / k := by
      refine (Int.le_ediv_iff_mul_le (by omega)).mpr ?_
      omega
    have e : ((2 : Int) ^ 63 - 1) = 9223372036854775807 := by decide
    rw [e]
    have e2 : (9223372036854775807 : Int) / 100000 = 92233720368547 := by decide
    omega
  · unfold PySem.Builtin.Str.tooLong
    have := sizeLine_ge
    simp
    omega
  · rw [if_neg (by omega), if_neg (by
      rw [Bool.or_eq_true, not_or]
      exact ⟨fun e => by have := eq_of_beq e; omega, fun e => by have := eq_of_beq e; omega⟩)]
    exact ⟨Nat.le_trans h5 sizeLine_ge, .str _, H, I.tok _, ⟨_, rfl⟩, q⟩
@[simp] def fMulS : DF2 := fun _ d _ d' Q => match d, d' with
  | .str z, .int k => 2 ≤ k ∧ k < 100000 ∧ 1 ≤ z.length ∧ z.length ≤ 100 ∧ (repS z k.toNat).length ≤ 10000000 ∧ Q (.v 2 (.str (repS z k.toNat)))
  | _, _ => False
theorem r2_mulS {K : PySem.W.Frag} {T : Tab} : R2D K T rRepS fMulS := by
  intro S τ σ H g d g' d' v u QD Q sr r1 r2 q k
  unfold fMulS at q
  split at q
  · rename_i z i
    obtain ⟨h1, h2, h3, h4, h5, q⟩ := q
    exact ⟨z, i, r1, r2, h1, h2, h3, h4, h5, k H _ (.v 2 (.str _)) sr.same rfl q⟩
  · exact q.elim
theorem de_mulS {X : Cx} {T : Tab} {a b : Expr} {ta tb : DTE} {pos : Pos} (ha : PE X a (UpE X.K T ta)) (hb : PE X b (UpE X.K T tb)) : PE X (.BinOp a .Mult b pos) (UpE X.K T (dOp fMulS ta tb)) := de_op op_repS r2_mulS ha hb
end DL
/-! DLT: a head for laws whose frames make lambdas: tables of code objects. -/
namespace DL
open PySem PySem.Spec PyProof.Rows L2
theorem isTab_ok {o : Option Obj} (h : isTab o = true) : o = some { cls := .none, data := .fields #[] } := by
  unfold isTab at h
  split at h
  · rename_i vs sl
    obtain ⟨h1, h2⟩ := Bool.and_eq_true_iff.mp h
    rw [Array.isEmpty_iff.mp h1, Array.isEmpty_iff.mp h2]
  · cases h
theorem look_filter {β : Type} (f : Addr → Bool) (a : Addr) : ∀ l : List (Addr × β), (l.filter fun p => f p.1).lookup a = if f a = true then l.lookup a else none
  | [] => by cases f a <;> rfl
  | (b, o) :: r => by
    have ih := look_filter f a r
    rw [List.filter_cons]
    by_cases hb : f b = true
    · rw [if_pos hb, List.lookup_cons, List.lookup_cons]
      by_cases e : (a == b) = true
      · rw [e, beq_iff_eq.mp e, if_pos hb]
      · rw [Bool.not_eq_true] at e
        rw [e]
        exact ih
    · rw [if_neg hb, ih, List.lookup_cons]
      by_cases e : (a == b) = true
      · rw [beq_iff_eq.mp e, if_neg hb, if_neg hb]
      · rw [Bool.not_eq_true] at e
        rw [e]
theorem hid_look (xs : List Str) (K : PySem.W.Frag) (a : Addr) : (hid xs K).lookup a = if (!(xs.map fun x => (tabP K x).2).contains a) = true then K.lookup a else none := look_filter (fun a => !(xs.map fun x => (tabP K x).2).contains a) a K
theorem hid_in {xs : List Str} {K : PySem.W.Frag} {h : Heap} (X : K.In h) : (hid xs K).In h := fun a o e => by
  rw [hid_look] at e
  split at e
  · exact X a o e
  · cases e
section
variable {xs : List Str} {K : PySem.W.Frag} {h : Heap} {x : Str}
theorem tabP_hid (t : tabB xs K = true) (hx : x ∈ xs) : tabP (hid xs K) x = tabP K x ∧ PySem.W.tabIn (hid xs K) x = some (tabP (hid xs K) x) := by
  have h1 := List.all_eq_true.mp t x hx
  have h2 := of_decide_eq_true (Bool.and_eq_true_iff.mp (Bool.and_eq_true_iff.mp h1).2).1
  have e : tabP (hid xs K) x = tabP K x := by
    unfold tabP at h2 ⊢
    rw [h2]
  exact ⟨e, by rw [e]; exact h2⟩
theorem tab_get (t : tabB xs K = true) (X : K.In h) (hx : x ∈ xs) : h.get? (tabP (hid xs K) x).2 = some { cls := .none, data := .fields #[] } := by
  have h1 := List.all_eq_true.mp t x hx
  rw [(tabP_hid t hx).1]
  exact X _ _ (isTab_ok (Bool.and_eq_true_iff.mp h1).1)
theorem tab_no (t : tabB xs K = true) (hx : x ∈ xs) : (hid xs K).lookup (tabP (hid xs K) x).2 = none := by
  rw [(tabP_hid t hx).1, hid_look, if_neg]
  intro z
  rw [Bool.not_eq_true'] at z
  have : (xs.map fun x => (tabP K x).2).contains (tabP K x).2 = true := List.contains_iff_mem.mpr (List.mem_map.mpr ⟨x, hx, rfl⟩)
  rw [this] at z
  cases z
theorem tab_hd (t : tabB xs K = true) (X : K.In h) (hx : x ∈ xs) : PySem.W.CodeHd h (tabP (hid xs K) x).1 (tabP (hid xs K) x).2 := by
  have h1 := List.all_eq_true.mp t x hx
  rw [(tabP_hid t hx).1]
  exact PySem.W.codeHd_of_K (hid_in X) (Bool.and_eq_true_iff.mp (Bool.and_eq_true_iff.mp h1).2).2
end
/-- a frame's table -/
structure TabF (T : Tab) (mg : Str → Option Value) (base : Heap) (fd : FuncData) (q : Str) : Prop where
  ex : ∃ c P, LamX.TabB base mg c P ∧ fd.code = .ref c ∧ (P, q) ∈ tabsT T ∧ ∀ p ∈ tabsT T, p.1 = P → p.2 = q
theorem tab_code {K : PySem.W.Frag} {h : Heap} {mg : Str → Option Value} {x : Str} {f : Addr} {fd : FuncData} {oc : Value} {od : Option Addr} {osl : Array (Option Value)} {cp : Addr × Addr} (X : K.In h) (G : h.Ns mainGlobals mg) (ht : PySem.W.tabIn K x = some cp) (hm : mg x = some (.ref f)) (lk : K.lookup f = some ⟨oc, od, .func fd, osl⟩) : fd.code = .ref cp.1 := by
  unfold PySem.W.tabIn at ht
  split at ht
  · rename_i f' q
    have e := PySem.W.mg_of X G q
    rw [hm] at e
    cases e
    rw [lk] at ht
    dsimp only at ht
    split at ht
    · rename_i c qc
      split at ht
      · split at ht
        · cases ht
          exact qc
        · cases ht
      · cases ht
    · cases ht
  · cases ht
theorem tabF_of {K : PySem.W.Frag} {T : Tab} {h base : Heap} {mg : Str → Option Value} {x x2 qual q : Str} {f : Addr} {fd : FuncData} {params : Arguments} {body : List Stmt} {scope : Scope} {dvs : List V} {kws : List (Str × V)} (X : K.In h) (G : h.Ns mainGlobals mg) (ht : PySem.W.tabIn K x = some (tabP K x)) (hm : mg x = some (.ref f)) (F : FunD K x2 qual params body scope dvs kws f fd)
    (tb : LamX.TabB base mg (tabP K x).1 (tabP K x).2) (h1 : ((tabP K x).2, q) ∈ tabsT T) (h2 : ∀ p ∈ tabsT T, p.1 = (tabP K x).2 → p.2 = q) : TabF T mg base fd q := by
  obtain ⟨oc, od, dV, kV, doc, pm, an, cdv, ct, osl, rfl, lk, _⟩ := F.ex
  exact ⟨_, _, tb, tab_code X G ht hm lk, h1, h2⟩
theorem lamT_of {X : Cx} {T : Tab} {fd : FuncData} {q : Str} (tf : TabF T X.mg X.base fd q) (hc : fd.code = X.env.code) (hq : X.env.qual ++ "<lambda>" = q := by rfl) : LamT X T := by
  obtain ⟨c, P, h1, h2, h3, h4⟩ := tf.ex
  subst hq
  exact ⟨c, P, h1, by rw [← hc, h2], h3, h4⟩
/-! ### the classes of errors -/
theorem tOex_ok {K : PySem.W.Frag} {x : Str} (e : tOex x K = true) : OexC K (He.ga K x) := by
  obtain ⟨q, e⟩ := Bool.and_eq_true_iff.mp e
  obtain ⟨h1, e⟩ := Bool.and_eq_true_iff.mp e
  obtain ⟨h2, e⟩ := Bool.and_eq_true_iff.mp e
  obtain ⟨h3, h4⟩ := Bool.and_eq_true_iff.mp e
  refine ⟨?_, He.eqO_ok h1, of_decide_eq_true h2, of_decide_eq_true h3, h4⟩
  split at q
  · rename_i dd cd sl ho
    split at q
    · rename_i C' bm k0 k1 k2 k3 n k5 hm hs
      simp only [Bool.and_eq_true, beq_iff_eq, Bool.not_eq_true'] at q
      obtain ⟨hC, rfl, hdel, hdc, ht⟩ := q
      obtain ⟨nm, bs, mro, ns, qn, hd, sn, sub, ab, col, del⟩ := cd
      dsimp only at hm hdel hdc
      subst hm hdel hdc
      have hsl : sl = #[k0, k1, k2, k3, some (.builtin "ValueError.__new__"), k5] := by
        obtain ⟨l⟩ := sl
        simp only at hs
        rw [hs]
      subst hsl
      rw [hC] at ho
      exact ⟨nm, qn, ns, bs, bm, sn, sub, ab, col, dd, k0, k1, k2, k3, k5, ho, ht⟩
    · cases q
  · cases q
theorem tErr_ok {K : PySem.W.Frag} {x : Str} (e : tErr x K = true) : XfC K (He.ga K x) ∧ (∀ n ∈ errNames, PySem.W.findIn K (.ref (He.ga K x)) n = some none) ∧ PySem.W.exmOne K (.ref (He.ga K x)) (.ref (He.ga K "SpanError")) = some true := by
  obtain ⟨h1, e⟩ := Bool.and_eq_true_iff.mp e
  obtain ⟨h2, h3⟩ := Bool.and_eq_true_iff.mp e
  exact ⟨xfB_ok h1, fun n hn => He.eqO_ok (List.all_eq_true.mp h2 n hn), of_decide_eq_true h3⟩
theorem errK_of {K : PySem.W.Frag} {h : Heap} {mg : Str → Option Value} (X : K.In h) (G : h.Ns mainGlobals mg) (hs : (He.Fa.glo "SpanError").ok K = true) (e : tErrs K = true) : ErrK K mg (He.ga K "SpanError") := by
  refine ⟨He.glo_ok X G hs, fun x ps C hx hm => ?_⟩
  rcases Bool.or_eq_true_iff.mp (List.all_eq_true.mp e _ hx) with h0 | h0
  · have e0 := He.free_ok X G (x := x) h0
    rw [hm] at e0
    cases e0
  · obtain ⟨h1, h2⟩ := Bool.and_eq_true_iff.mp h0
    have e2 := He.glo_ok X G (x := x) h1
    rw [hm] at e2
    cases e2
    exact tErr_ok h2
/-! ### the hook -/
end DL
/-! DX8: comparisons, repr of what may raise. -/
namespace DL
open PySem PySem.Spec PyProof.Rows L2
@[simp] def dOpX (f : DF2) (ta : DTEx) (tb : DTE) : DTEx := fun τ Q R => ta τ (fun x => tb τ fun y => f x.g x.d y.g y.d Q) R
section
variable {X : Cx} {T : Tab} {E : XK} {k c : Nat} {C : Ctr} {a b e : Expr} {ta te : DTEx} {tb : DTE} {r : R2} {f : DF2} {op : CmpOp} {p pos : Pos}
@[simp] def dRepX (c : Nat) (C : Ctr) (te : DTEx) : DTEx := fun τ Q R => te τ (fun sl => fRepO c C sl.g [sl.d] Q) R
end
end DL
/-! DX9: arguments that may raise. -/
namespace DL
open PySem PySem.Spec PyProof.Rows L2
abbrev DTAx := DSt → (Nat → List D → Prop) → (Er → Prop) → Prop
def UpAx (K : PySem.W.Frag) (T : Tab) (ek : EK) (t : DTAx) : TA := fun σ H Q => ∃ (S : Sit) (τ : DSt) (QD : Nat → List D → Prop) (QE : Er → Prop), SR K T S τ σ H ∧ t τ QD QE ∧ (∀ H' vs g ds, Aft K T S H H' → RepsG K T S g H' ds vs → QD g ds → Q vs H') ∧
  ∀ H' er cls d, Aft K T S H H' → ErR K T ek.mg S.B H' er cls d → QE er → ek.E cls d H'
@[simp] def xNil : DTAx := fun _ Q _ => Q 2 []
@[simp] def xCons (te : DTEx) (tr : DTAx) : DTAx := fun τ Q R => te τ (fun s => tr τ (fun g ds => Q (min (up s.g s.d) g) (s.d :: ds)) R) R
section
variable {X : Cx} {T : Tab} {E : XK} {e : Expr} {es : List Expr} {te : DTEx} {t : DTAx} {pos p : Pos}
@[simp] def dMakeX2 (c : Nat) (C : CtrI) (ta : DTAx) : DTEx := fun τ Q R => ta τ (fun g ds => 2 ≤ g ∧ C ds fun fs => Q (.v 2 (.obj c fs))) R
end
end DL
/-! DLT2: two frames that make lambdas. -/
namespace DL
open PySem PySem.Spec PyProof.Rows L2
section
variable {P : Program} {w : World} {K : PySem.W.Frag} {T : Tab} {mg : Str → Option Value} {base : Heap} {x qual : Str} {params : Arguments} {body : List Stmt} {scope : Scope} {dvs : List V} {kws : List (Str × V)} {f : Addr} {fd : FuncData} {N ps : List Str} {k : Nat}
theorem fn_okC (F : FunD K x qual params body scope dvs kws f fd) (S : FnScope N ps scope) (C : Ctr) (t : DTS) (hl : ∀ ds QD, C ds QD → ds.length = ps.length)
    (hb : ∀ (cdv : Value) (A : Around) (outer : List Env) (s : Shared) (H : Hp) (E : XK), fd.code = cdv → Room k (A.deeper (envOfC qual scope s.heap.objs.size f cdv)) → PSs (cxOf CX0 P w K mg base N qual scope f cdv A outer s H E).nox body (UpS K T ⟨mg, E⟩ t))
    (hp : ∀ ds QD, C ds QD → t { nx := fun _ => QD (.v 2 .non), rt := QD } (startD N ds)) : FnOk P w K mg base CX0 (k + 1) f fd ps (spC K T C) := by
  refine funD_okC F S (fun vs H Q E h => ?_) (fun cdv A outer s H vs Q E hcd hr h => ⟨UpS K T ⟨mg, E⟩ t, (hb cdv A outer s H E hcd hr).nox, ?_⟩)
  · obtain ⟨B, L, M, ds, QD, _, _, r, q, _⟩ := h
    rw [r.len]; exact hl ds QD q
  · obtain ⟨B, L, M, ds, QD, bag, hm, r, q, kk⟩ := h
    have kb : ∀ {H' : Hp}, Kp (fun a => B = some a ∨ False) H H' → Kp (fun a => B = some a) H H' := fun z => z.mono fun _ z => Or.elim z (fun z => z) (fun z => by cases z)
    refine ⟨⟨B, L, fun _ => False, H, M, fun a => B = some a, []⟩, startD N ds, _, sr_start bag hm r, hp ds QD q, ⟨fun P' τ' σ' H' sr q' => kk H' .non (.v 2 .non) (kb sr.kp) sr.bag rfl q', fun _ _ _ _ _ z => z.elim, fun _ _ _ _ _ z => z.elim, fun H' v sl kp bag' rr q' => kk H' v sl (kb kp) bag' rr q', fun _ _ _ _ _ _ _ _ z => z.elim, fun _ _ _ _ _ _ _ z => z.elim, fun _ _ _ _ _ _ _ _ z => z.elim, fun _ _ _ _ _ _ _ _ _ z => z.elim⟩⟩
end
theorem tabs2 {T : Tab} {A B : Addr} {q r : Str} (h0 : T 1000 = (A, [q])) (h1 : T 1001 = (B, [r])) (ne : A ≠ B) : ((A, q) ∈ tabsT T ∧ ∀ p ∈ tabsT T, p.1 = A → p.2 = q) ∧ ((B, r) ∈ tabsT T ∧ ∀ p ∈ tabsT T, p.1 = B → p.2 = r) := by
  have e : tabsT T = [(A, q), (B, r)] := by
    unfold tabsT
    rw [h0, h1]
    rfl
  rw [e]
  refine ⟨⟨by simp, fun p hp z => ?_⟩, by simp, fun p hp z => ?_⟩
  · simp at hp
    rcases hp with rfl | rfl
    · rfl
    · exact absurd z (Ne.symm ne)
  · simp at hp
    rcases hp with rfl | rfl
    · exact absurd z ne
    · rfl
end DL
/-! Q1: pieces, labels, rows, in plain Lean. -/
namespace PR
/-- a piece -/
inductive Pc where
  | top (n : Int) | old (a : Int) (b : Option Int) | new (l h n : Int)
  deriving DecidableEq
abbrev Lab := Int × Int
def Pc.size : Pc → Option Int
  | .top n => some n
  | .old _ none => none
  | .old a (some b) => some (b - a + 1)
  | .new _ _ n => some n
def Pc.first : Pc → Option Lab
  | .top _ => none
  | .old a _ => some (a, a)
  | .new l h _ => some (l, h)
/-- the last label of a closed piece -/
def Pc.last : Pc → Option Lab
  | .top _ => none
  | .old _ none => none
  | .old _ (some b) => some (b, b)
  | .new l h _ => some (l, h)
def Pc.isTop : Pc → Bool
  | .top _ => true
  | _ => false
def Pc.isOld : Pc → Bool
  | .old _ _ => true
  | _ => false
def Pc.isOpen : Pc → Bool
  | .old _ none => true
  | _ => false
@[simp] theorem isTop_t (n : Int) : (Pc.top n).isTop = true := rfl
@[simp] theorem isTop_o (a : Int) (b : Option Int) : (Pc.old a b).isTop = false := rfl
@[simp] theorem isTop_n (l h n : Int) : (Pc.new l h n).isTop = false := rfl
@[simp] theorem isOld_t (n : Int) : (Pc.top n).isOld = false := rfl
@[simp] theorem isOld_o (a : Int) (b : Option Int) : (Pc.old a b).isOld = true := rfl
@[simp] theorem isOld_n (l h n : Int) : (Pc.new l h n).isOld = false := rfl
@[simp] theorem isOpen_t (n : Int) : (Pc.top n).isOpen = false := rfl
@[simp] theorem isOpen_o (a : Int) (b : Option Int) : (Pc.old a b).isOpen = b.isNone := by cases b <;> rfl
@[simp] theorem isOpen_n (l h n : Int) : (Pc.new l h n).isOpen = false := rfl
def weld : Pc → Pc → Option Pc
  | .top m, .top n => some (.top (m + n))
  | .old a (some b), .old c d => if b + 1 = c then some (.old a d) else none
  | .new l h n, .new l' h' m => if l = l' ∧ h = h' then some (.new l h (n + m)) else none
  | _, _ => none
def normF (found : List Pc) (p : Pc) : List Pc := match found.getLast? with
  | none => [p]
  | some q => match weld q p with
    | none => found ++ [p]
    | some b => found.dropLast ++ [b]
def norm (ps : List Pc) : List Pc := ps.foldl normF []
def Pc.valid : Pc → Bool
  | .top n => decide (1 ≤ n)
  | .old a none => decide (0 ≤ a)
  | .old a (some b) => decide (0 ≤ a) && decide (a ≤ b)
  | .new l h n => decide (0 ≤ l) && decide (l < h) && decide (1 ≤ n)
/-- may q come behind the closed piece p -/
def mayF (p q : Pc) : Bool := if p.isTop then true else if q.isTop then false else match p.last, q.first with
  | some x, some y => !(decide (x.1 > y.1) || decide (x.2 > y.2)) && (!p.isOld || !q.isOld || decide (x ≠ y))
  | _, _ => false
def okFrom : Option Pc → List Pc → Bool
  | none, [] => false
  | some p, [] => p.isOpen
  | b, p :: ps => p.valid && (match b with
    | none => true
    | some q => !q.isOpen && mayF q p) && okFrom (some p) ps
theorem okFrom_cons (b : Option Pc) (p : Pc) (ps : List Pc) : okFrom b (p :: ps) = (p.valid && (match b with
    | none => true
    | some q => !q.isOpen && mayF q p) && okFrom (some p) ps) := by cases b <;> rfl
def okPcs (ps : List Pc) : Bool := okFrom none ps
/-- no open piece but the last one -/
def closedF : List Pc → Bool
  | [] => true
  | [_] => true
  | p :: q :: ps => !p.isOpen && closedF (q :: ps)
/-- is the pair a break, by the program -/
def brkP (b : Option Lab) (a : Lab) : Bool := match b with
  | none => decide (a ≠ (0, 0))
  | some b => if b.1 = a.1 ∨ b.2 = a.2 then false else decide (b.1 < b.2) || decide (a.1 < a.2) || decide (b.1 + 1 ≠ a.1)
def brkF : Option Lab → List Pc → List (Option Lab × Lab)
  | _, [] => []
  | b, p :: ps => match p.first with
    | none => brkF b ps
    | some a => (if brkP b a then [(b, a)] else []) ++ brkF p.last ps
def brks (ps : List Pc) : List (Option Lab × Lab) := brkF none ps
def rollF (found : List Pc) (x : Option Lab) : List Pc := match x with
  | none => match found.getLast? with
    | some (.top n) => found.dropLast ++ [.top (n + 1)]
    | _ => found ++ [.top 1]
  | some (l, h) => if l = h then match found.getLast? with
      | some (.old a (some b)) => if b + 1 = l then found.dropLast ++ [.old a (some l)] else found ++ [.old l (some l)]
      | _ => found ++ [.old l (some l)]
    else match found.getLast? with
      | some (.new l' h' n) => if l' = l ∧ h' = h then found.dropLast ++ [.new l h (n + 1)] else found ++ [.new l h 1]
      | _ => found ++ [.new l h 1]
def rollE (found : List Pc) : List Pc := match found.getLast? with
  | some (.old a _) => found.dropLast ++ [.old a none]
  | _ => found
def roll (rows : List (Option Lab)) : List Pc := rollE (rows.foldl rollF [])
/-- the last row is an old one -/
def oldEnd (rows : List (Option Lab)) : Prop := ∃ v, rows.getLast? = some (some (v, v))
/-- labels that may stand one behind the other -/
def lle (x y : Lab) : Prop := x.1 ≤ y.1 ∧ x.2 ≤ y.2 ∧ (x.1 = x.2 → y.1 = y.2 → x.1 < y.1)
def labOk (x : Lab) : Prop := 0 ≤ x.1 ∧ x.1 ≤ x.2
/-- v, v + 1, .. -/
def rangeI (v : Int) : Nat → List Int
  | 0 => []
  | n + 1 => v :: rangeI (v + 1) n
structure Rows (k : Nat) (rows : List (Option Lab)) : Prop where
  ex : ∃ (t : Nat) (ls : List Lab) (v : Int), rows = List.replicate t none ++ ls.map some ++ ((rangeI v 9).map fun i => some (i, i)) ∧ t ≤ 3 ∧ ls.length ≤ 3 * k ∧ (ls ++ [(v, v)]).Pairwise lle ∧ (∀ x ∈ ls ++ [(v, v)], labOk x) ∧ v ≤ 6 * k + 10
  pc : (roll rows).length ≤ k + 2
/-- is the pair a break, by the law -/
def brkL (x : Option Lab) (y : Lab) : Bool := match x with
  | none => decide (y ≠ (0, 0))
  | some x => if x.1 = y.1 ∨ x.2 = y.2 then false else !(decide (x.1 = x.2) && decide (y.1 = y.2) && decide (x.1 + 1 = y.1))
def brkR : Option Lab → List Lab → List (Option Lab × Lab)
  | _, [] => []
  | b, a :: ls => (if brkL b a then [(b, a)] else []) ++ brkR (some a) ls
def labsOf (rows : List (Option Lab)) : List Lab := rows.filterMap id
end PR
/-! M1: pieces, labels, rows: what the program's parts promise. -/
namespace PR
open PySem PySem.Spec PyProof.Rows L2 DL
abbrev FS0 : List Str := ["row_pieces"]
def oD : Option Int → D
  | none => .non
  | some i => .int i
@[simp] theorem oD_none : oD none = .non := rfl
@[simp] theorem oD_some (i : Int) : oD (some i) = .int i := rfl
def Pc.d : Pc → D
  | .top n => .tup [.str "top", .int n]
  | .old a b => .tup [.str "old", .int a, oD b]
  | .new l h n => .tup [.str "new", .int l, .int h, .int n]
@[simp] theorem oD_inj {a b : Option Int} : oD a = oD b ↔ a = b := by
  cases a <;> cases b <;> simp
@[simp] theorem Pc.d_inj {p q : Pc} : p.d = q.d ↔ p = q := by
  cases p <;> cases q <;> simp [Pc.d]
@[simp] theorem Pc.imm_d (p : Pc) : p.d.imm = true := by
  cases p with
  | old a b => cases b <;> rfl
  | _ => rfl
@[simp] theorem imm_pcs (ps : List Pc) : immAll (ps.map Pc.d) = true := by
  induction ps with
  | nil => rfl
  | cons p ps ih => simp [ih]
def labD (x : Lab) : D := .tup [.int x.1, .int x.2]
def oL : Option Lab → D
  | none => .non
  | some x => labD x
@[simp] theorem labD_inj {x y : Lab} : labD x = labD y ↔ x = y := by
  obtain ⟨a, b⟩ := x
  obtain ⟨c, d⟩ := y
  simp [labD]
@[simp] theorem oL_none : oL none = .non := rfl
@[simp] theorem oL_some (x : Lab) : oL (some x) = labD x := rfl
@[simp] theorem oL_inj {x y : Option Lab} : oL x = oL y ↔ x = y := by
  cases x with
  | none => cases y <;> simp [labD]
  | some x =>
    cases y with
    | none => simp [labD]
    | some y => rw [oL_some, oL_some, labD_inj, Option.some.injEq]
@[simp] theorem imm_lab (x : Lab) : (labD x).imm = true := rfl
@[simp] theorem imm_oL (x : Option Lab) : (oL x).imm = true := by cases x <;> rfl
@[simp] theorem imm_labs (xs : List Lab) : immAll (xs.map labD) = true := by
  induction xs with
  | nil => rfl
  | cons p ps ih => simp [ih]
@[simp] theorem imm_oLs (xs : List (Option Lab)) : immAll (xs.map oL) = true := by
  induction xs with
  | nil => rfl
  | cons p ps ih => simp [ih]
def Pc.lastD : Pc → D
  | .old _ none => .tup [.non, .non]
  | p => oL p.last
def pcsD (ps : List Pc) : List D := ps.map Pc.d
abbrev layD (ps : List Pc) : D := .obj 0 [.lst (pcsD ps)]
@[simp] theorem imm_pcsD (ps : List Pc) : immAll (pcsD ps) = true := imm_pcs ps
/-- a list or a tuple -/
def seqOf (tu : Bool) (ds : List D) : D := if tu then .tup ds else .lst ds
@[simp] theorem elems_seqOf (tu : Bool) (ds : List D) : elems (seqOf tu ds) = some ds := by cases tu <;> rfl
def brkD (x : Option Lab × Lab) : D := .tup [oL x.1, labD x.2]
@[simp] theorem imm_brks (xs : List (Option Lab × Lab)) : immAll (xs.map brkD) = true := by
  induction xs with
  | nil => rfl
  | cons p ps ih => simp [brkD, ih]

@[simp] theorem lay_pc (p : Pc) : lay p.d = true := by
  cases p with
  | old a b => cases b <;> simp [Pc.d]
  | _ => simp [Pc.d]
theorem dep_pc (p : Pc) : dep p.d ≤ 1 := by
  cases p with
  | old a b => cases b <;> simp [Pc.d]
  | _ => simp [Pc.d]
@[simp] theorem lays_pcs (ps : List Pc) : lays (pcsD ps) = true := by
  induction ps with
  | nil => rfl
  | cons p ps ih => simpa [pcsD] using ih
theorem deps_pcs1 (ps : List Pc) : deps (pcsD ps) ≤ 1 := by
  induction ps with
  | nil => simp [pcsD]
  | cons p ps ih =>
    have := dep_pc p
    simp only [pcsD, List.map_cons, deps]
    exact Nat.max_le.mpr ⟨this, ih⟩
@[simp] theorem deps_pcs {n : Nat} (ps : List Pc) (h : 1 ≤ n) : deps (pcsD ps) ≤ n := Nat.le_trans (deps_pcs1 ps) h
@[simp] theorem dep_pc' {n : Nat} (p : Pc) (h : 1 ≤ n) : dep p.d ≤ n := Nat.le_trans (dep_pc p) h
@[simp] theorem pcsD_nil : pcsD [] = [] := rfl
@[simp] theorem pcsD_cons (p : Pc) (ps : List Pc) : pcsD (p :: ps) = p.d :: pcsD ps := rfl
@[simp] theorem pcsD_app (ps qs : List Pc) : pcsD (ps ++ qs) = pcsD ps ++ pcsD qs := by simp [pcsD]
@[simp] theorem pcsD_len (ps : List Pc) : (pcsD ps).length = ps.length := by simp [pcsD]
@[simp] theorem isNon_pc (p : Pc) : isNon p.d = false := by cases p <;> rfl

@[simp] theorem set_pcs (ps : List Pc) (a b : D) : (pcsD ps ++ [a]).set ps.length b = pcsD ps ++ [b] := by
  have := set_app_len (pcsD ps) a b
  rwa [pcsD_len] at this

/-! ### promises -/
def C_size_of : Ctr := fun ds Q => ∃ p : Pc, ds = [p.d] ∧ Q (.v 2 (oD p.size))
def C_first_label : Ctr := fun ds Q => ∃ p : Pc, ds = [p.d] ∧ Q (.v 2 (oL p.first))
def C_last_label : Ctr := fun ds Q => ∃ p : Pc, ds = [p.d] ∧ Q (.v 2 p.lastD)
def C_welded : Ctr := fun ds Q => ∃ p q : Pc, ds = [p.d, q.d] ∧ p.isOpen = false ∧ Q (.v 2 (match weld p q with
  | none => .non
  | some b => b.d))
def C_normal : Ctr := fun ds Q => ∃ (ps : List Pc) (tu : Bool), ds = [seqOf tu (pcsD ps)] ∧ closedF ps = true ∧ ps.length < 1000 ∧ Q (.own (pcsD (norm ps)))
/-- tuples that are no pieces, by their form -/
inductive OddP where
  | new2 | old1 | gap | nil | cap | top3
def OddP.d : OddP → D
  | .new2 => .tup [.str "new", .int 1, .int 4]
  | .old1 => .tup [.str "old", .int 2]
  | .gap => .tup [.str "gap", .int 1, .int 2]
  | .nil => .tup []
  | .cap => .tup [.str "Top", .int 1]
  | .top3 => .tup [.str "top", .int 1, .int 1]
/-- an item of a list of pieces -/
inductive Pit where
  | pc (p : Pc) | odd (o : OddP)
def Pit.d : Pit → D
  | .pc p => p.d
  | .odd o => o.d
def Pit.valid : Pit → Bool
  | .pc p => p.valid
  | .odd _ => false
@[simp] theorem Pit.imm_d (it : Pit) : it.d.imm = true := by
  cases it with
  | pc p => exact Pc.imm_d p
  | odd o => cases o <;> rfl
def C_is_piece : Ctr := fun ds Q => ∃ p : Pit, ds = [p.d] ∧ Q (.v 2 (.bl p.valid))
def C_may_follow : Ctr := fun ds Q => ∃ (b : Option Pc) (p : Pc), ds = [(match b with
  | none => D.non
  | some q => q.d), p.d] ∧ (∀ q, b = some q → q.isOpen = false) ∧ Q (.v 2 (.bl (match b with
  | none => true
  | some q => mayF q p)))
def C_check_pieces : Ctr := fun ds Q => ∃ (ps : List Pc) (tu : Bool), ds = [seqOf tu (pcsD ps)] ∧ okPcs ps = true ∧ ps.length < 1000 ∧ Q (.v 2 .non)
def C_Layout___init__ : CtrI := fun ds Q => ∃ (ps : List Pc) (tu : Bool), ds = [seqOf tu (pcsD ps)] ∧ okPcs ps = true ∧ ps.length < 1000 ∧ (norm ps).length ≤ 60 ∧ Q [.lst (pcsD (norm ps))]
def C_Layout_plain : Ctr := fun ds Q => ds = [.cls 0] ∧ Q (.v 2 (layD [.old 0 none]))
def C_Layout_pieces : Ctr := fun ds Q => ∃ ps : List Pc, ds = [layD ps] ∧ Q (.own (pcsD ps))
def C_is_break : Ctr := fun ds Q => ∃ (b : Option Lab) (a : Lab), ds = [oL b, labD a] ∧ Q (.v 2 (.bl (brkP b a)))
def C_breaks : Ctr := fun ds Q => ∃ ps : List Pc, ds = [layD ps] ∧ closedF ps = true ∧ ps.length < 1000 ∧ Q (.own ((brks ps).map brkD))
end PR
/-! T1: the readings of the program (printed by mkt.py). -/
namespace PR
open PySem PySem.Spec PyProof.Rows L2 DL
abbrev N_size_of : List Str := ["piece", "count", "first", "last"]
abbrev P_size_of : List Str := ["piece"]
def t_size_of : DTS := (dMatch (dVar 0) [⟨(.seq [(.val "top"), (.cap (some "count"))]), [1], (dRet (dVar 1))⟩, ⟨(.seq [(.val "old"), (.cap (some "first")), (.cap (some "last"))]), [2, 3], (dRet (dIfE (tV (dIsN (dVar 3))) (dK .non) (dOp fAdd (dOp fSub (dVar 3) (dVar 2)) (dK (.int 1)))))⟩, ⟨(.seq [(.cap none), (.cap none), (.cap none), (.cap (some "count"))]), [1], (dRet (dVar 1))⟩])
abbrev N_first_label : List Str := ["piece", "first", "low", "high"]
abbrev P_first_label : List Str := ["piece"]
def t_first_label : DTS := (dMatch (dVar 0) [⟨(.seq [(.val "top"), (.cap none)]), [], (dRet (dK .non))⟩, ⟨(.seq [(.val "old"), (.cap (some "first")), (.cap none)]), [1], (dRet (dTup (aCons (dVar 1) (aCons (dVar 1) aNil))))⟩, ⟨(.seq [(.cap none), (.cap (some "low")), (.cap (some "high")), (.cap none)]), [2, 3], (dRet (dTup (aCons (dVar 2) (aCons (dVar 3) aNil))))⟩])
abbrev N_last_label : List Str := ["piece"]
abbrev P_last_label : List Str := ["piece"]
def t_last_label : DTS := (dRet (dIfE (tV (dOp fEq (dIxK 0 (dVar 0)) (dK (.str "old")))) (dTup (aCons (dIxK 2 (dVar 0)) (aCons (dIxK 2 (dVar 0)) aNil))) (dCall C_first_label [] (aCons (dVar 0) aNil))))
abbrev N_welded : List Str := ["one", "other"]
abbrev P_welded : List Str := ["one", "other"]
def t_welded : DTS := (dSeq (dIf (tV (dOp fNe (dIxK 0 (dVar 0)) (dIxK 0 (dVar 1)))) (dRet (dK .non)) dNext) (dSeq (dIf (tV (dOp fEq (dIxK 0 (dVar 0)) (dK (.str "top")))) (dRet (dTup (aCons (dK (.str "top")) (aCons (dOp fAdd (dIxK 1 (dVar 0)) (dIxK 1 (dVar 1))) aNil)))) dNext) (dSeq (dIf (tV (dOp fEq (dIxK 0 (dVar 0)) (dK (.str "old")))) (dRet (dIfE (tV (dOp fEq (dOp fAdd (dIxK 2 (dVar 0)) (dK (.int 1))) (dIxK 1 (dVar 1)))) (dTup (aCons (dK (.str "old")) (aCons (dIxK 1 (dVar 0)) (aCons (dIxK 2 (dVar 1)) aNil)))) (dK .non))) dNext) (dRet (dIfE (tV (dOp fEq (dSl (dVar 0) oNone (oSome (dK (.int 3)))) (dSl (dVar 1) oNone (oSome (dK (.int 3)))))) (dTup (aStar (dSl (dVar 0) oNone (oSome (dK (.int 3)))) (aCons (dOp fAdd (dIxK 3 (dVar 0)) (dIxK 3 (dVar 1))) aNil))) (dK .non))))))
abbrev N_normal : List Str := ["pieces", "found", "piece", "both"]
abbrev P_normal : List Str := ["pieces"]
def lb1_normal : DTS := (dSeq (dSet 3 (dIfE (tV (dOp fNe (dVar 1) (dLst aNil))) (dCall C_welded [] (aCons (dIxL (dVar 1)) (aCons (dVar 2) aNil))) (dK .non))) (dIf (tV (dIsN (dVar 3))) (dApp 1 (dVar 2)) (dAsg (dVar 3) (gSub 1 (dNeg (dK (.int 1)))))))
def t_normal : DTS := (dSeq (dSetO 1 (dLst aNil)) (dSeq (dFor (dVar 0) (gN 2) lb1_normal) (dRetOwn 1)))
abbrev N_is_piece : List Str := ["piece", "count", "first", "last", "low", "high"]
abbrev P_is_piece : List Str := ["piece"]
def t_is_piece : DTS := (dSeq (dMatch (dVar 0) [⟨(.seq [(.val "top"), (.cap (some "count"))]), [1], (dRet (dOp fGe (dVar 1) (dK (.int 1))))⟩, ⟨(.seq [(.val "old"), (.cap (some "first")), (.cap (some "last"))]), [2, 3], (dRet (vAnd (dOp fLe (dK (.int 0)) (dVar 2)) (vOr (dIsN (dVar 3)) (dOp fLe (dVar 2) (dVar 3)))))⟩, ⟨(.seq [(.val "new"), (.cap (some "low")), (.cap (some "high")), (.cap (some "count"))]), [4, 5, 1], (dRet (vAnd (dChain pLe pLt (dK (.int 0)) (dVar 4) (dVar 5)) (dOp fGe (dVar 1) (dK (.int 1)))))⟩]) (dRet (dK (.bl false))))
abbrev N_may_follow : List Str := ["before", "piece", "left", "right"]
abbrev P_may_follow : List Str := ["before", "piece"]
def t_may_follow : DTS := (dSeq (dIf (tV (dIsN (dVar 0))) (dRet (dK (.bl true))) dNext) (dSeq (dIf (tV (dOp fEq (dIxK 0 (dVar 0)) (dK (.str "top")))) (dRet (dK (.bl true))) dNext) (dSeq (dIf (tV (dOp fEq (dIxK 0 (dVar 1)) (dK (.str "top")))) (dRet (dK (.bl false))) dNext) (dSeq (dPar 2 3 false false (dCall C_last_label [] (aCons (dVar 0) aNil)) (dCall C_first_label [] (aCons (dVar 1) aNil))) (dSeq (dIf (tvOr (tV (dOp fGt (dIxK 0 (dVar 2)) (dIxK 0 (dVar 3)))) (tV (dOp fGt (dIxK 1 (dVar 2)) (dIxK 1 (dVar 3))))) (dRet (dK (.bl false))) dNext) (dRet (vOr (dOp fNe (dIxK 0 (dVar 0)) (dK (.str "old"))) (vOr (dOp fNe (dIxK 0 (dVar 1)) (dK (.str "old"))) (dOp fNe (dVar 2) (dVar 3))))))))))
abbrev N_check_pieces : List Str := ["pieces", "before", "at", "piece"]
abbrev P_check_pieces : List Str := ["pieces"]
def lb1_check_pieces : DTS := (dSeq (dIf (tvOr (tvNot (tV (dCall C_is_piece [] (aCons (dVar 3) aNil)))) (tvOr (tvAnd (tV (dNotN (dVar 1))) (tV (dIsN (dCall C_size_of [] (aCons (dVar 1) aNil))))) (tvNot (tV (dCall C_may_follow [] (aCons (dVar 1) (aCons (dVar 3) aNil))))))) dNever dNext) (dSet 1 (dVar 3)))
def t_check_pieces : DTS := (dSeq (dSet 1 (dK .non)) (dSeq (dForE (aCons (dVar 0) aNil) (gT 2 (gsCons (gN 2) (gsCons (gN 3) gsNil))) lb1_check_pieces) (dIf (tvOr (tV (dIsN (dVar 1))) (tV (dNotN (dCall C_size_of [] (aCons (dVar 1) aNil))))) dNever dNext)))
abbrev N_Layout___init__ : List Str := ["self", "pieces"]
abbrev P_Layout___init__ : List Str := ["self", "pieces"]
def t_Layout___init__ : DTS := (dSeq (dDrop (dCall C_check_pieces [] (aCons (dVar 1) aNil))) (dSeq (dPutF 0 0 (dCall C_normal [] (aCons (dVar 1) aNil))) (dIf (tV (dOp fGt (dCB fLen (aCons (dFldI 0 0) aNil)) (dK (.int 60)))) dNever dNext)))
abbrev N_Layout_plain : List Str := ["cls"]
abbrev P_Layout_plain : List Str := ["cls"]
def t_Layout_plain : DTS := (dRet (dMakeL 0 0 C_Layout___init__ [] (aCons (dK (.tup [.tup [.str "old", .int 0, .non]])) aNil)))
abbrev N_Layout_pieces : List Str := ["self"]
abbrev P_Layout_pieces : List Str := ["self"]
def t_Layout_pieces : DTS := (dRet (dCB fList (aCons (dFld 0 0 (dVar 0)) aNil)))
abbrev N_is_break : List Str := ["before", "after"]
abbrev P_is_break : List Str := ["before", "after"]
def t_is_break : DTS := (dSeq (dIf (tV (dIsN (dVar 0))) (dRet (dOp fNe (dVar 1) (dTup (aCons (dK (.int 0)) (aCons (dK (.int 0)) aNil))))) dNext) (dSeq (dIf (tvOr (tV (dOp fEq (dIxK 0 (dVar 0)) (dIxK 0 (dVar 1)))) (tV (dOp fEq (dIxK 1 (dVar 0)) (dIxK 1 (dVar 1))))) (dRet (dK (.bl false))) dNext) (dRet (vOr (dOp fLt (dIxK 0 (dVar 0)) (dIxK 1 (dVar 0))) (vOr (dOp fLt (dIxK 0 (dVar 1)) (dIxK 1 (dVar 1))) (dOp fNe (dOp fAdd (dIxK 0 (dVar 0)) (dK (.int 1))) (dIxK 0 (dVar 1))))))))
abbrev N_breaks : List Str := ["layout", "found", "before", "piece", "after"]
abbrev P_breaks : List Str := ["layout"]
def lb1_breaks : DTS := (dIf (tV (dOp fNe (dIxK 0 (dVar 3)) (dK (.str "top")))) (dSeq (dSet 4 (dCall C_first_label [] (aCons (dVar 3) aNil))) (dSeq (dIf (tV (dCall C_is_break [] (aCons (dVar 2) (aCons (dVar 4) aNil)))) (dApp 1 (dTup (aCons (dVar 2) (aCons (dVar 4) aNil)))) dNext) (dSet 2 (dCall C_last_label [] (aCons (dVar 3) aNil))))) dNext)
def t_breaks : DTS := (dSeq (dPar 1 2 true false (dLst aNil) (dK .non)) (dSeq (dFor (dMeth 0 C_Layout_pieces [] (dVar 0) aNil) (gN 3) lb1_breaks) (dRetOwn 1)))
end PR
/-! P1: what the readings do: pieces. -/
namespace PR
open PySem PySem.Spec PyProof.Rows L2 DL
abbrev Pure (C : Ctr) (t : DTS) (N : List Str) : Prop := ∀ ds QD, C ds QD → t { nx := fun _ => QD (.v 2 .non), rt := QD } (startD N ds)
def bD : Option Pc → D
  | none => .non
  | some q => q.d
end PR
/-! M4: layouts that may be refused: promises. -/
namespace PR
open PySem PySem.Spec PyProof.Rows L2 DL
/-- a list that ends so at n is refused there -/
def endBad (b : Option Pc) (n : Nat) : Option Nat := match b with
  | none => some n
  | some p => if p.isOpen then none else some n
/-- where check_pieces refuses, b being the piece ahead -/
def badAt : Option Pc → Nat → List Pc → Option Nat
  | b, n, [] => endBad b n
  | b, n, p :: ps => if p.valid && (match b with
    | none => true
    | some q => !q.isOpen && mayF q p) then badAt (some p) (n + 1) ps else some n
abbrev eBadPieces (k : Int) : Er := mkEr "BadPieces" ["at"] [.int k]
abbrev eTooMany : Er := mkEr "TooManyPieces" ["most"] [.int 60]
def pitsD (its : List Pit) : List D := its.map Pit.d
@[simp] theorem pitsD_nil : pitsD [] = [] := rfl
@[simp] theorem pitsD_cons (p : Pit) (ps : List Pit) : pitsD (p :: ps) = p.d :: pitsD ps := rfl
@[simp] theorem pitsD_app (ps qs : List Pit) : pitsD (ps ++ qs) = pitsD ps ++ pitsD qs := by simp [pitsD]
@[simp] theorem pitsD_len (ps : List Pit) : (pitsD ps).length = ps.length := by simp [pitsD]
@[simp] theorem imm_pits (ps : List Pit) : immAll (pitsD ps) = true := by
  induction ps with
  | nil => rfl
  | cons p ps ih => simpa [pitsD] using ih
/-- where check_pieces refuses, odd items and all -/
def badP : Option Pc → Nat → List Pit → Option Nat
  | b, n, [] => endBad b n
  | _, n, .odd _ :: _ => some n
  | b, n, .pc p :: ps => if p.valid && (match b with
    | none => true
    | some q => !q.isOpen && mayF q p) then badP (some p) (n + 1) ps else some n
def X_check_pieces : CtrX := fun ds Q R => ∃ (its : List Pit) (tu : Bool), ds = [seqOf tu (pitsD its)] ∧ its.length < 1000 ∧ (badP none 0 its = none → Q (.v 2 .non)) ∧ (∀ k : Nat, badP none 0 its = some k → R (eBadPieces k))
def X_Layout___init__ : CtrXI := fun ds Q R => ∃ (its : List Pit) (tu : Bool), ds = [seqOf tu (pitsD its)] ∧ its.length < 1000 ∧ (∀ k : Nat, badP none 0 its = some k → R (eBadPieces k)) ∧
  ∀ ps : List Pc, its = ps.map .pc → badAt none 0 ps = none → ((norm ps).length ≤ 60 → Q [.lst (pcsD (norm ps))]) ∧ (60 < (norm ps).length → R eTooMany)
end PR
/-! ME: own == and len of layouts: promises. -/
namespace PR
open PySem PySem.Spec PyProof.Rows L2 DL
def C_Layout___eq__ : Ctr := fun ds Q => ∃ (ps : List Pc) (d : D), ds = [layD ps, d] ∧ ((∃ qs, d = layD qs ∧ Q (.v 2 (.bl (decide (ps = qs))))) ∨ (isKind d = true ∧ Q (.v 2 (.bl false))))
def C_Layout___len__ : Ctr := fun ds Q => ∃ ps : List Pc, ds = [layD ps] ∧ Q (.v 2 (.int ps.length))
end PR
/-! MTx: texts of layouts: promises. -/
namespace PR
open PySem PySem.Spec PyProof.Rows L2 DL
/-- at most eighteen digits -/
def Sm (n : Int) : Prop := 0 ≤ n ∧ n < 1000000000000000000
def SmP : Pc → Prop
  | .top n => Sm n
  | .old a none => Sm a
  | .old a (some b) => Sm a ∧ Sm b
  | .new l h n => Sm l ∧ Sm h ∧ Sm n
def oldT (a : Int) : Option Int → Str
  | none => numS a ++ ("-" : Str)
  | some b => if a = b then numS a else numS a ++ ("-" : Str) ++ numS b
def pieceT : Pc → Str
  | .top n => ("top " : Str) ++ numS n
  | .old a none => ("old " : Str) ++ numS a ++ ("-" : Str)
  | .old a (some b) => if a = b then ("old " : Str) ++ numS a else ("old " : Str) ++ numS a ++ ("-" : Str) ++ numS b
  | .new l h n => ("new " : Str) ++ numS l ++ ("-" : Str) ++ numS h ++ (" x" : Str) ++ numS n
def layT (ps : List Pc) : Str := Txt.join ("; " : Str) (ps.map pieceT)
/-- the number that a word writes -/
def numF (w : Str) : Option Int :=
  if 1 ≤ w.length ∧ w.length ≤ 18 ∧ (TL.tl w).all (fun c => decide (48 ≤ c) && decide (c ≤ 57)) = true then
    (if (TL.tl w).head? = some 48 ∧ 1 < w.length then none else some ((NumText.digitsVal (TL.tl w) : Nat) : Int))
  else none
def numsF : List Str → Option (List Int)
  | [] => some []
  | w :: ws => match numF w, numsF ws with
    | some n, some ns => some (n :: ns)
    | _, _ => none
def numsD (o : Option (List Int)) : D := match o with
  | some ns => .lst (ns.map .int)
  | none => .non
def C_number_in : Ctr := fun ds Q => ∃ w : Str, ds = [.str w] ∧ PyData.strOk w = true ∧ w.length ≤ 100000 ∧ Q (.v 2 (oD (numF w)))
def C_numbers_in : Ctr := fun ds Q => ∃ ws : List Str, ds = [.lst (ws.map .str)] ∧ ws.length ≤ 20000 ∧ (∀ w ∈ ws, PyData.strOk w = true ∧ w.length ≤ 100000) ∧ Q (.v 2 (numsD (numsF ws)))
def C_old_piece : Ctr := fun ds Q => ∃ (a : Int) (b : Option Int), ds = [.str (oldT a b)] ∧ SmP (.old a b) ∧ Q (.v 2 (Pc.old a b).d)
def C_piece_text : Ctr := fun ds Q => ∃ p : Pc, ds = [p.d] ∧ SmP p ∧ Q (.v 2 (.str (pieceT p)))
def C_piece_in : Ctr := fun ds Q => ∃ p : Pc, ds = [.str (pieceT p)] ∧ SmP p ∧ Q (.v 2 p.d)
def C_pieces_in : Ctr := fun ds Q => ∃ ps : List Pc, ds = [.str (layT ps)] ∧ ps ≠ [] ∧ ps.length ≤ 100 ∧ (∀ p ∈ ps, SmP p) ∧ Q (.own (pcsD ps))
def C_Layout_read : Ctr := fun ds Q => ∃ ps : List Pc, ds = [.cls 0, .str (layT ps)] ∧ okPcs ps = true ∧ norm ps = ps ∧ ps ≠ [] ∧ ps.length ≤ 60 ∧ (∀ p ∈ ps, SmP p) ∧ Q (.v 2 (layD ps))
def C_Layout___str__ : Ctr := fun ds Q => ∃ ps : List Pc, ds = [layD ps] ∧ ps.length ≤ 100 ∧ (∀ p ∈ ps, SmP p) ∧ Q (.v 2 (.str (layT ps)))
def C_layout_text : Ctr := fun ds Q => ∃ ps : List Pc, ds = [layD ps] ∧ ps.length ≤ 100 ∧ (∀ p ∈ ps, SmP p) ∧ Q (.v 2 (.str (layT ps)))
def C__law_piece_text : Ctr := fun ds Q => ∃ p : Pc, ds = [p.d] ∧ SmP p ∧ Q (.v 2 (.str (pieceT p)))
def C__law_layout_text : Ctr := fun ds Q => ∃ ps : List Pc, ds = [.lst (pcsD ps)] ∧ ps.length ≤ 100 ∧ (∀ p ∈ ps, SmP p) ∧ Q (.v 2 (.str (layT ps)))
end PR
namespace PR
open PySem PySem.Spec PyProof.Rows L2 DL
def lbx1_check_pieces : DTS := (dSeq (dIf (tvOr (tvNot (tV (dCall C_is_piece [] (aCons (dVar 3) aNil)))) (tvOr (tvAnd (tV (dNotN (dVar 1))) (tV (dIsN (dCall C_size_of [] (aCons (dVar 1) aNil))))) (tvNot (tV (dCall C_may_follow [] (aCons (dVar 1) (aCons (dVar 3) aNil))))))) (dRaise "BadPieces" ["at"] (aCons (dVar 2) aNil)) dNext) (dSet 1 (dVar 3)))
def tx_check_pieces : DTS := (dSeq (dSet 1 (dK .non)) (dSeq (dForE (aCons (dVar 0) aNil) (gT 2 (gsCons (gN 2) (gsCons (gN 3) gsNil))) lbx1_check_pieces) (dIf (tvOr (tV (dIsN (dVar 1))) (tV (dNotN (dCall C_size_of [] (aCons (dVar 1) aNil))))) (dRaise "BadPieces" ["at"] (aCons (dCB fLen (aCons (dVar 0) aNil)) aNil)) dNext)))
def tx_Layout___init__ : DTS := (dSeq (dDropX (dCallX X_check_pieces [] (aCons (dVar 1) aNil))) (dSeq (dPutF 0 0 (dCall C_normal [] (aCons (dVar 1) aNil))) (dIf (tV (dOp fGt (dCB fLen (aCons (dFldI 0 0) aNil)) (dK (.int 60)))) (dRaise "TooManyPieces" ["most"] (aCons (dK (.int 60)) aNil)) dNext)))
end PR
/-! P4: layouts that may be refused. -/
namespace PR
open PySem PySem.Spec PyProof.Rows L2 DL
end PR
/-! Q2: rows and the pieces that they are rolled into, in plain Lean. -/
namespace PR
theorem rangeI_mem : ∀ (n : Nat) (v i : Int), i ∈ rangeI v n ↔ v ≤ i ∧ i < v + n
  | 0, v, i => by
    simp [rangeI]
    try omega
  | n + 1, v, i => by
    simp [rangeI, rangeI_mem n]
    omega
theorem rangeI_len : ∀ (n : Nat) (v : Int), (rangeI v n).length = n
  | 0, _ => rfl
  | n + 1, v => by simp [rangeI, rangeI_len n]
theorem rangeI_pw : ∀ (n : Nat) (v : Int), (rangeI v n).Pairwise (· < ·)
  | 0, _ => List.Pairwise.nil
  | n + 1, v => by
    simp [rangeI, rangeI_pw n]
    intro a ha
    have := (rangeI_mem n (v + 1) a).mp ha
    omega
theorem olds_pw (n : Nat) (v : Int) : ((rangeI v n).map fun i => ((i, i) : Lab)).Pairwise lle := by
  rw [List.pairwise_map]
  exact (rangeI_pw n v).imp fun {a b} h => ⟨Int.le_of_lt h, Int.le_of_lt h, fun _ _ => h⟩
theorem rollF_last (found : List Pc) (x : Option Lab) : ∃ q, (rollF found x).getLast? = some q ∧ q.isOpen = false ∧ (rollF found x).length ≤ found.length + 1 ∧ (∀ v, x = some (v, v) → ∃ a b, q = .old a (some b)) := by
  rcases List.eq_nil_or_concat found with rfl | ⟨init, q, rfl⟩
  · cases x with
    | none => exact ⟨.top 1, rfl, rfl, by simp [rollF], by simp⟩
    | some x =>
      obtain ⟨l, h⟩ := x
      by_cases e : l = h
      · subst e
        exact ⟨.old l (some l), by simp [rollF], rfl, by simp [rollF], fun _ _ => ⟨_, _, rfl⟩⟩
      · exact ⟨.new l h 1, by simp [rollF, e], rfl, by simp [rollF, e], by simp; omega⟩
  · cases x with
    | none => cases q <;> simp [rollF]
    | some x =>
      obtain ⟨l, h⟩ := x
      by_cases e : l = h
      · subst e
        cases q with
        | top n => exact ⟨.old l (some l), by simp [rollF], rfl, by simp [rollF], fun _ _ => ⟨_, _, rfl⟩⟩
        | new a b n => exact ⟨.old l (some l), by simp [rollF], rfl, by simp [rollF], fun _ _ => ⟨_, _, rfl⟩⟩
        | old a b => cases b with
          | none => exact ⟨.old l (some l), by simp [rollF], rfl, by simp [rollF], fun _ _ => ⟨_, _, rfl⟩⟩
          | some b =>
            by_cases e2 : b + 1 = l
            · exact ⟨.old a (some l), by simp [rollF, e2], rfl, by simp [rollF, e2], fun _ _ => ⟨_, _, rfl⟩⟩
            · exact ⟨.old l (some l), by simp [rollF, e2], rfl, by simp [rollF, e2], fun _ _ => ⟨_, _, rfl⟩⟩
      · have hv : ∀ v, some (l, h) = some (v, v) → False := by
          intro v z
          simp at z
          omega
        cases q with
        | top n => exact ⟨.new l h 1, by simp [rollF, e], rfl, by simp [rollF, e], fun v z => (hv v z).elim⟩
        | old a b => exact ⟨.new l h 1, by simp [rollF, e], rfl, by simp [rollF, e], fun v z => (hv v z).elim⟩
        | new l' h' n =>
          by_cases e2 : l' = l ∧ h' = h
          · exact ⟨.new l h (n + 1), by simp [rollF, e, e2], rfl, by simp [rollF, e, e2], fun v z => (hv v z).elim⟩
          · exact ⟨.new l h 1, by simp [rollF, e, e2], rfl, by simp [rollF, e, e2], fun v z => (hv v z).elim⟩
theorem fold_last : ∀ (rows : List (Option Lab)) (found : List Pc) (v : Int), rows.getLast? = some (some (v, v)) → ∃ init a b, rows.foldl rollF found = init ++ [.old a (some b)] ∧ (rows.foldl rollF found).length ≤ found.length + rows.length := by
  intro rows
  induction rows with
  | nil => intro found v h; cases h
  | cons x rows ih =>
    intro found v h
    obtain ⟨q, q1, _, q3, q4⟩ := rollF_last found x
    cases rows with
    | nil =>
      simp at h
      obtain ⟨a, b, rfl⟩ := q4 v h
      obtain ⟨init, e⟩ := List.getLast?_eq_some_iff.mp q1
      exact ⟨init, a, b, e, by simpa using q3⟩
    | cons y rows =>
      obtain ⟨init, a, b, e1, e2⟩ := ih (rollF found x) v (by simpa using h)
      refine ⟨init, a, b, e1, ?_⟩
      simp only [List.foldl_cons, List.length_cons] at e2 ⊢
      omega
/-- one piece behind another, both whole -/
def Adj (p q : Pc) : Prop := p.isOpen = false ∧ mayF p q = true ∧ weld p q = none
def chn : List Pc → Prop
  | [] => True
  | [_] => True
  | p :: q :: ps => Adj p q ∧ chn (q :: ps)
theorem chn_app {ps : List Pc} {q p : Pc} : chn (ps ++ [q] ++ [p]) ↔ chn (ps ++ [q]) ∧ Adj q p := by
  induction ps with
  | nil => simp [chn]
  | cons x ps ih =>
    cases ps with
    | nil => simp [chn]
    | cons y ps =>
      have e : x :: y :: ps ++ [q] ++ [p] = x :: y :: (ps ++ [q] ++ [p]) := rfl
      have e2 : x :: y :: ps ++ [q] = x :: y :: (ps ++ [q]) := rfl
      rw [e, e2]
      simp only [chn]
      have ih' : chn (y :: (ps ++ [q] ++ [p])) ↔ chn (y :: (ps ++ [q])) ∧ Adj q p := ih
      rw [ih', and_assoc]
def sameH : Pc → Pc → Prop
  | .top _, .top _ => True
  | .old a _, .old b _ => a = b
  | .new l h _, .new l' h' _ => l = l' ∧ h = h'
  | _, _ => False
theorem adj_same {p q q' : Pc} (h : sameH q q') (a : Adj p q) : Adj p q' := by
  obtain ⟨a1, a2, a3⟩ := a
  refine ⟨a1, ?_, ?_⟩
  · cases q <;> cases q' <;> simp [sameH] at h
    · simpa [mayF] using a2
    · subst h
      simpa [mayF, Pc.first] using a2
    · obtain ⟨rfl, rfl⟩ := h
      simpa [mayF, Pc.first] using a2
  · cases p with
    | top n => cases q <;> cases q' <;> simp [sameH] at h <;> simp_all [weld]
    | new l k n => cases q <;> cases q' <;> simp [sameH] at h <;> simp_all [weld]
    | old a b => cases b <;> cases q <;> cases q' <;> simp [sameH] at h <;> simp_all [weld]
theorem chn_last {ps : List Pc} {q q' : Pc} (h : sameH q q') (c : chn (ps ++ [q])) : chn (ps ++ [q']) := by
  rcases List.eq_nil_or_concat ps with rfl | ⟨init, r, rfl⟩
  · trivial
  · rw [List.concat_eq_append, chn_app] at c ⊢
    exact ⟨c.1, adj_same h c.2⟩
def endL : Option Lab → List Pc → Option Lab
  | b, [] => b
  | b, p :: ps => endL (match p.first with
    | none => b
    | some _ => p.last) ps
theorem brkF_app : ∀ (ps qs : List Pc) (b : Option Lab), brkF b (ps ++ qs) = brkF b ps ++ brkF (endL b ps) qs
  | [], qs, b => rfl
  | p :: ps, qs, b => by
    cases h : p.first with
    | none => simp [brkF, endL, h, brkF_app ps qs]
    | some a => simp [brkF, endL, h, brkF_app ps qs]
theorem endL_app : ∀ (ps qs : List Pc) (b : Option Lab), endL b (ps ++ qs) = endL (endL b ps) qs
  | [], qs, b => rfl
  | p :: ps, qs, b => by simp [endL, endL_app ps qs]
theorem brkR_app : ∀ (xs : List Lab) (a : Lab) (b : Option Lab), brkR b (xs ++ [a]) = brkR b xs ++ (if brkL (xs.getLast?.or b) a then [(xs.getLast?.or b, a)] else [])
  | [], a, b => by cases h : brkL b a <;> simp [brkR, h]
  | x :: xs, a, b => by
    have e : (x :: xs).getLast?.or b = xs.getLast?.or (some x) := by
      cases xs with
      | nil => rfl
      | cons y ys =>
        rw [List.getLast?_cons_cons]
        cases h : (y :: ys).getLast? with
        | none => simp at h
        | some z => rfl
    rw [List.cons_append, brkR, brkR, brkR_app xs a (some x), e, List.append_assoc]
theorem brk_same {b : Option Lab} {a : Lab} (hb : ∀ x, b = some x → labOk x) (ha : labOk a) : brkP b a = brkL b a := by
  cases b with
  | none => rfl
  | some x =>
    obtain ⟨h1, h2⟩ := hb x rfl
    obtain ⟨h3, h4⟩ := ha
    obtain ⟨x1, x2⟩ := x
    obtain ⟨a1, a2⟩ := a
    simp only [brkP, brkL] at *
    split
    · rfl
    · by_cases e1 : x1 = x2 <;> by_cases e2 : a1 = a2 <;> by_cases e3 : x1 + 1 = a1 <;> simp [e1, e2, e3] <;> omega
/-- what the fold keeps -/
structure RI (found : List Pc) (ls : List Lab) : Prop where
  va : ∀ p ∈ found, p.valid = true ∧ p.isOpen = false
  ch : chn found
  br : brkF none found = brkR none ls
  el : endL none found = ls.getLast?
  en : (ls = [] ∧ (found = [] ∨ ∃ n, found = [.top n])) ∨ ∃ y init q, ls.getLast? = some y ∧ found = init ++ [q] ∧ q.last = some y
theorem endL_snoc {init : List Pc} {q : Pc} {y : Lab} (b : Option Lab) (h : q.last = some y) : endL b (init ++ [q]) = some y := by
  rw [endL_app]
  cases q with
  | top n => cases h
  | old a c => cases c with
    | none => cases h
    | some c => simpa [endL, Pc.first] using h
  | new l k n => simpa [endL, Pc.first] using h
/-- a piece put behind -/
theorem RI.app {found : List Pc} {ls : List Lab} {a : Lab} {p : Pc} (h : RI found ls) (hp : p.first = some a) (hl : p.last = some a) (hv : p.valid = true) (ho : p.isOpen = false) (ha : labOk a) (hy : ∀ y, ls.getLast? = some y → labOk y)
    (hadj : ∀ init q, found = init ++ [q] → Adj q p) : RI (found ++ [p]) (ls ++ [a]) := by
  refine ⟨fun x hx => ?_, ?_, ?_, ?_, ?_⟩
  · rcases List.mem_append.mp hx with hx | hx
    · exact h.va x hx
    · obtain rfl := List.mem_singleton.mp hx
      exact ⟨hv, ho⟩
  · rcases List.eq_nil_or_concat found with rfl | ⟨init, q, rfl⟩
    · trivial
    · rw [List.concat_eq_append] at *
      rw [chn_app]
      exact ⟨h.ch, hadj init q rfl⟩
  · rw [brkF_app, brkR_app, h.br, h.el]
    simp [brkF, hp, brk_same (b := ls.getLast?) hy ha]
  · rw [endL_snoc none hl]
    simp
  · exact .inr ⟨a, found, p, by simp, rfl, hl⟩
/-- the last piece grown -/
theorem RI.grow {init : List Pc} {ls : List Lab} {a y : Lab} {p p' : Pc} (h : RI (init ++ [p]) ls) (hs : sameH p p') (hf : p.first = p'.first) (hly : ls.getLast? = some y) (hl : p'.last = some a) (hv : p'.valid = true) (ho : p'.isOpen = false) (hb : brkL (some y) a = false) : RI (init ++ [p']) (ls ++ [a]) := by
  refine ⟨fun x hx => ?_, chn_last hs h.ch, ?_, ?_, ?_⟩
  · rcases List.mem_append.mp hx with hx | hx
    · exact h.va x (List.mem_append_left _ hx)
    · obtain rfl := List.mem_singleton.mp hx
      exact ⟨hv, ho⟩
  · have e := h.br
    rw [brkF_app] at e ⊢
    rw [brkR_app, ← e, hly]
    simp [brkF, hf, hb]
  · rw [endL_snoc none hl]
    simp
  · exact .inr ⟨a, init, p', by simp, rfl, hl⟩

theorem RI.step {found : List Pc} {ls : List Lab} {a : Lab} (h : RI found ls) (ha : labOk a) (hall : ∀ y ∈ ls, labOk y) (hle : ∀ y, ls.getLast? = some y → lle y a) : RI (rollF found (some a)) (ls ++ [a]) := by
  obtain ⟨l, k⟩ := a
  obtain ⟨h0, hlk⟩ := ha
  have h0 : 0 ≤ l := h0
  have hlk : l ≤ k := hlk
  have hy : ∀ y, ls.getLast? = some y → labOk y := fun y e => hall y (List.mem_of_getLast? e)
  have nolast : ls.getLast? = none → found = [] ∨ ∃ n, found = [.top n] := fun e => by
    rcases h.en with ⟨_, h1⟩ | ⟨y, _, _, h1, _⟩
    · exact h1
    · rw [h1] at e; cases e
  by_cases e : l = k
  · subst e
    have hp : (Pc.old l (some l)).valid = true := by simp [Pc.valid, h0]
    rcases h.en with ⟨hls, rfl | ⟨n, rfl⟩⟩ | ⟨y, init, q, hy1, rfl, hq⟩
    · have := RI.app (p := .old l (some l)) h rfl rfl hp rfl ⟨h0, hlk⟩ hy (fun init q z => by simp at z)
      simpa [rollF] using this
    · have := RI.app (p := .old l (some l)) h rfl rfl hp rfl ⟨h0, hlk⟩ hy (fun init q z => by
        obtain ⟨rfl, rfl⟩ : init = [] ∧ Pc.top n = q := by
          cases init with
          | nil => simpa using z
          | cons x xs => simp at z
        exact ⟨rfl, rfl, rfl⟩)
      simpa [rollF] using this
    · obtain ⟨c1, c2, c3⟩ := hle y hy1
      have hyo := hy y hy1
      obtain ⟨y1, y2⟩ := y
      simp only at c1 c2 c3
      cases q with
      | top n => cases hq
      | old b c => cases c with
        | none => cases hq
        | some c =>
          simp [Pc.last] at hq
          obtain ⟨rfl, rfl⟩ := hq
          have c3 := c3 rfl trivial
          by_cases e2 : c + 1 = l
          · have hv := (h.va (.old b (some c)) (by simp)).1
            have := RI.grow (p' := .old b (some l)) (a := (l, l)) h (show b = b from rfl) rfl hy1 rfl (by simp [Pc.valid] at hv ⊢; omega) rfl (by simp [brkL]; omega)
            simpa [rollF, e2] using this
          · have := RI.app (p := .old l (some l)) h rfl rfl hp rfl ⟨h0, hlk⟩ hy (fun init' q' z => by
              obtain ⟨_, w⟩ := List.append_inj' z rfl
              obtain rfl : Pc.old b (some c) = q' := by simpa using w
              refine ⟨rfl, ?_, by simp [weld, e2]⟩
              simp [mayF, Pc.last, Pc.first]
              omega)
            simpa [rollF, e2] using this
      | new b c n =>
        simp [Pc.last] at hq
        obtain ⟨rfl, rfl⟩ := hq
        have := RI.app (p := .old l (some l)) h rfl rfl hp rfl ⟨h0, hlk⟩ hy (fun init' q' z => by
          obtain ⟨_, w⟩ := List.append_inj' z rfl
          obtain rfl : Pc.new b c n = q' := by simpa using w
          refine ⟨rfl, ?_, by simp [weld]⟩
          simp [mayF, Pc.last, Pc.first]
          omega)
        simpa [rollF] using this
  · have hp : (Pc.new l k 1).valid = true := by simp [Pc.valid]; omega
    rcases h.en with ⟨hls, rfl | ⟨n, rfl⟩⟩ | ⟨y, init, q, hy1, rfl, hq⟩
    · have := RI.app (p := .new l k 1) h rfl rfl hp rfl ⟨h0, hlk⟩ hy (fun init q z => by simp at z)
      simpa [rollF, e] using this
    · have := RI.app (p := .new l k 1) h rfl rfl hp rfl ⟨h0, hlk⟩ hy (fun init q z => by
        obtain ⟨rfl, rfl⟩ : init = [] ∧ Pc.top n = q := by
          cases init with
          | nil => simpa using z
          | cons x xs => simp at z
        exact ⟨rfl, rfl, rfl⟩)
      simpa [rollF, e] using this
    · obtain ⟨c1, c2, c3⟩ := hle y hy1
      obtain ⟨y1, y2⟩ := y
      simp only at c1 c2 c3
      cases q with
      | top n => cases hq
      | old b c => cases c with
        | none => cases hq
        | some c =>
          simp [Pc.last] at hq
          obtain ⟨rfl, rfl⟩ := hq
          have := RI.app (p := .new l k 1) h rfl rfl hp rfl ⟨h0, hlk⟩ hy (fun init' q' z => by
            obtain ⟨_, w⟩ := List.append_inj' z rfl
            obtain rfl : Pc.old b (some c) = q' := by simpa using w
            refine ⟨rfl, ?_, by simp [weld]⟩
            simp [mayF, Pc.last, Pc.first]
            omega)
          simpa [rollF, e] using this
      | new b c n =>
        simp [Pc.last] at hq
        obtain ⟨rfl, rfl⟩ := hq
        by_cases e2 : b = l ∧ c = k
        · obtain ⟨rfl, rfl⟩ := e2
          have hv := (h.va (.new b c n) (by simp)).1
          have := RI.grow (p' := .new b c (n + 1)) (a := (b, c)) h ⟨rfl, rfl⟩ rfl hy1 rfl (by simp [Pc.valid] at hv ⊢; omega) rfl (by simp [brkL])
          simpa [rollF, e] using this
        · have := RI.app (p := .new l k 1) h rfl rfl hp rfl ⟨h0, hlk⟩ hy (fun init' q' z => by
            obtain ⟨_, w⟩ := List.append_inj' z rfl
            obtain rfl : Pc.new b c n = q' := by simpa using w
            refine ⟨rfl, ?_, by simp [weld, e2]⟩
            simp [mayF, Pc.last, Pc.first]
            omega)
          simpa [rollF, e, e2] using this
theorem RI.fold : ∀ (ls' : List Lab) (found : List Pc) (ls : List Lab), RI found ls → (ls ++ ls').Pairwise lle → (∀ y ∈ ls ++ ls', labOk y) → RI ((ls'.map some).foldl rollF found) (ls ++ ls')
  | [], found, ls, h, _, _ => by simpa using h
  | a :: ls', found, ls, h, hp, ho => by
    have hs := h.step (a := a) (ho a (by simp)) (fun y hy => ho y (by simp [hy])) (fun y hy => (List.pairwise_append.mp hp).2.2 y (List.mem_of_getLast? hy) a List.mem_cons_self)
    have := RI.fold ls' (rollF found (some a)) (ls ++ [a]) hs (by simpa using hp) (by simpa using ho)
    simpa using this
end PR
/-! Q3: cutting pieces, commands; rows by their numbers, in plain Lean. -/
namespace PR
/-- a piece cut behind its first k rows -/
def Pc.cut1 (k : Int) : Pc → Pc
  | .top _ => .top k
  | .old a _ => .old a (some (a + k - 1))
  | .new l h _ => .new l h k
def Pc.cut2 (k : Int) : Pc → Pc
  | .top n => .top (n - k)
  | .old a b => .old (a + k) b
  | .new l h n => .new l h (n - k)
def cutF : List Pc → Int → List Pc × List Pc
  | [], _ => ([], [])
  | p :: ps, at_ => if at_ ≤ 0 then ([], p :: ps) else match p.size with
    | none => ([p.cut1 at_], p.cut2 at_ :: ps)
    | some s => if s > at_ then ([p.cut1 at_], p.cut2 at_ :: ps) else (p :: (cutF ps (at_ - s)).1, (cutF ps (at_ - s)).2)
/-- a command -/
inductive Cmd where
  | ins (i n : Int) | del (a b : Int)
  deriving DecidableEq
def Cmd.ok : Cmd → Bool
  | .ins i n => decide (0 ≤ i) && decide (1 ≤ n)
  | .del a b => decide (0 ≤ a) && decide (a ≤ b)
def insF (ps : List Pc) (i n : Int) : List Pc :=
  let (b, a) := cutF ps i
  norm (match b.getLast?.bind Pc.last with
    | none => b ++ .top n :: a
    | some x => b ++ .new x.1 ((a.head?.bind Pc.first).getD (0, 0)).2 n :: a)
def delF (ps : List Pc) (f l : Int) : List Pc := norm ((cutF ps f).1 ++ (cutF ps (l + 1)).2)
def cmdF (ps : List Pc) : Cmd → List Pc
  | .ins i n => insF ps i n
  | .del a b => delF ps a b
/-- the label of the r-th row of a piece -/
def Pc.at_ (r : Int) : Pc → Option Lab
  | .top _ => none
  | .old a _ => some (a + r, a + r)
  | .new l h _ => some (l, h)
/-- the label of the r-th row -/
def lab : List Pc → Int → Option Lab
  | [], _ => none
  | p :: ps, r => match p.size with
    | none => p.at_ r
    | some s => if r < s then p.at_ r else lab ps (r - s)
/-- how many rows closed pieces have -/
def tot : List Pc → Int
  | [] => 0
  | p :: ps => (p.size.getD 0) + tot ps
/-- pieces that are whole, closed -/
def allC (ps : List Pc) : Prop := ∀ p ∈ ps, p.valid = true ∧ p.isOpen = false
theorem size_closed {p : Pc} (h : p.isOpen = false) : ∃ s, p.size = some s := by
  cases p with
  | top n => exact ⟨n, rfl⟩
  | old a b => cases b with
    | none => cases h
    | some b => exact ⟨_, rfl⟩
  | new l k n => exact ⟨n, rfl⟩
theorem size_pos {p : Pc} {s : Int} (hv : p.valid = true) (h : p.size = some s) : 1 ≤ s := by
  cases p with
  | top n => simp [Pc.size, Pc.valid] at *; omega
  | old a b => cases b <;> simp [Pc.size, Pc.valid] at * <;> omega
  | new l k n => simp [Pc.size, Pc.valid] at *; omega
theorem tot_nonneg {ps : List Pc} (h : allC ps) : 0 ≤ tot ps := by
  induction ps with
  | nil => exact Int.le_refl _
  | cons p ps ih =>
    obtain ⟨h1, h2⟩ := h p List.mem_cons_self
    obtain ⟨s, hs⟩ := size_closed h2
    have := size_pos h1 hs
    have := ih fun q hq => h q (List.mem_cons_of_mem _ hq)
    simp [tot, hs]
    omega
theorem tot_app (ps qs : List Pc) : tot (ps ++ qs) = tot ps + tot qs := by
  induction ps with
  | nil => simp [tot]
  | cons p ps ih => simp [tot, ih]; omega
theorem lab_app {ps qs : List Pc} (h : allC ps) {r : Int} (hr : 0 ≤ r) : lab (ps ++ qs) r = if r < tot ps then lab ps r else lab qs (r - tot ps) := by
  induction ps generalizing r with
  | nil =>
    have e : ¬ r < tot [] := by simp [tot]; omega
    rw [if_neg e]
    simp [tot]
  | cons p ps ih =>
    obtain ⟨h1, h2⟩ := h p List.mem_cons_self
    obtain ⟨s, hs⟩ := size_closed h2
    have hp := size_pos h1 hs
    have ht := tot_nonneg (ps := ps) fun q hq => h q (List.mem_cons_of_mem _ hq)
    rw [List.cons_append]
    simp only [lab, hs, tot, Option.getD_some]
    by_cases e : r < s
    · rw [if_pos e, if_pos (by omega), if_pos e]
    · rw [if_neg e, ih (fun q hq => h q (List.mem_cons_of_mem _ hq)) (by omega)]
      by_cases e2 : r - s < tot ps
      · rw [if_pos e2, if_pos (by omega), if_neg e]
      · rw [if_neg e2, if_neg (by omega)]
        congr 1
        omega
/-- pieces whose last one is open: a whole layout's -/
structure Lay (ps : List Pc) : Prop where
  ex : ∃ (init : List Pc) (a : Int), ps = init ++ [.old a none] ∧ allC init ∧ 0 ≤ a
theorem allC_cons {p : Pc} {ps : List Pc} : allC (p :: ps) ↔ (p.valid = true ∧ p.isOpen = false) ∧ allC ps := by
  unfold allC
  simp
theorem allC_app {ps qs : List Pc} : allC (ps ++ qs) ↔ allC ps ∧ allC qs := by
  unfold allC
  constructor
  · intro h
    exact ⟨fun p hp => h p (List.mem_append_left _ hp), fun p hp => h p (List.mem_append_right _ hp)⟩
  · rintro ⟨h1, h2⟩ p hp
    rcases List.mem_append.mp hp with hp | hp
    · exact h1 p hp
    · exact h2 p hp
theorem Lay.cons {p : Pc} {ps : List Pc} (h1 : p.valid = true) (h2 : p.isOpen = false) (h : Lay ps) : Lay (p :: ps) := by
  obtain ⟨init, a, rfl, h3, h4⟩ := h.ex
  exact ⟨p :: init, a, rfl, allC_cons.mpr ⟨⟨h1, h2⟩, h3⟩, h4⟩
theorem Lay.app {ps qs : List Pc} (h1 : allC ps) (h : Lay qs) : Lay (ps ++ qs) := by
  obtain ⟨init, a, rfl, h3, h4⟩ := h.ex
  exact ⟨ps ++ init, a, by simp, allC_app.mpr ⟨h1, h3⟩, h4⟩
theorem Lay.one {a : Int} (h : 0 ≤ a) : Lay [.old a none] := ⟨[], a, rfl, by simp [allC], h⟩
/-- its cases -/
theorem Lay.cases {p : Pc} {ps : List Pc} (h : Lay (p :: ps)) : (∃ a, p = .old a none ∧ ps = [] ∧ 0 ≤ a) ∨ (p.valid = true ∧ p.isOpen = false ∧ Lay ps) := by
  obtain ⟨init, a, e, h3, h4⟩ := h.ex
  cases init with
  | nil =>
    simp at e
    exact .inl ⟨a, e.1, e.2, h4⟩
  | cons q init =>
    simp at e
    obtain ⟨rfl, rfl⟩ := e
    obtain ⟨⟨k1, k2⟩, k3⟩ := allC_cons.mp h3
    exact .inr ⟨k1, k2, init, a, rfl, k3, h4⟩
theorem Lay.ne {ps : List Pc} (h : Lay ps) : ps ≠ [] := by
  obtain ⟨init, a, rfl, _⟩ := h.ex
  simp
/-- what a cut is -/
structure CutOk (ps : List Pc) (k : Int) (b a : List Pc) : Prop where
  cl : allC b
  la : Lay a
  tt : tot b = k
  fr : ∀ r, 0 ≤ r → r < k → lab b r = lab ps r
  bk : ∀ r, 0 ≤ r → lab a r = lab ps (r + k)
  ln : b.length + a.length ≤ ps.length + 1
end PR
/-! Q4: rows of layouts as functions of their numbers, in plain Lean. -/
namespace PR
theorem lle_trans {x y z : Lab} (h1 : lle x y) (h2 : lle y z) : lle x z := by
  obtain ⟨a1, a2, a3⟩ := h1
  obtain ⟨b1, b2, b3⟩ := h2
  refine ⟨by omega, by omega, fun e1 e2 => ?_⟩
  by_cases e : y.1 = y.2
  · have := a3 e1 e
    omega
  · omega
/-- labels of rows one behind the other -/
def ole : Option Lab → Option Lab → Prop
  | none, _ => True
  | some _, none => False
  | some x, some y => lle x y
theorem ole_trans {x y z : Option Lab} (h1 : ole x y) (h2 : ole y z) : ole x z := by
  cases x with
  | none => trivial
  | some x => cases y with
    | none => exact h1.elim
    | some y => cases z with
      | none => exact h2.elim
      | some z => exact lle_trans h1 h2
structure Good (f : Int → Option Lab) : Prop where
  mono : ∀ i j, 0 ≤ i → i < j → ole (f i) (f j)
  ok : ∀ i x, 0 ≤ i → f i = some x → labOk x
  tail : ∃ n v : Int, 0 ≤ n ∧ 0 ≤ v ∧ ∀ i, n ≤ i → f i = some (v + (i - n), v + (i - n))
theorem mono_of {f : Int → Option Lab} (h : ∀ i, 0 ≤ i → ole (f i) (f (i + 1))) : ∀ i j, 0 ≤ i → i < j → ole (f i) (f j) := by
  have key : ∀ (n : Nat) (i : Int), 0 ≤ i → ole (f i) (f (i + 1 + n)) := by
    intro n
    induction n with
    | zero => intro i hi; simpa using h i hi
    | succ n ih =>
      intro i hi
      have := ole_trans (ih i hi) (h (i + 1 + n) (by omega))
      rwa [show i + 1 + (n : Int) + 1 = i + 1 + ((n + 1 : Nat) : Int) by omega] at this
  intro i j hi hj
  have := key (j - i - 1).toNat i hi
  rwa [show i + 1 + ((j - i - 1).toNat : Int) = j by omega] at this
/-- pieces, valid, closed but the last one -/
theorem lab_head {p : Pc} {ps : List Pc} (h : Lay (p :: ps)) : lab (p :: ps) 0 = p.first := by
  rcases h.cases with ⟨a, rfl, rfl, ha⟩ | ⟨hv, ho, hl⟩
  · simp [lab, Pc.size, Pc.at_, Pc.first]
  · obtain ⟨s, hs⟩ := size_closed ho
    have := size_pos hv hs
    simp only [lab, hs]
    rw [if_pos (by omega)]
    cases p <;> simp [Pc.at_, Pc.first]
theorem lab_last {p : Pc} {s : Int} (h : p.size = some s) : p.at_ (s - 1) = p.last := by
  cases p with
  | top n => rfl
  | old a b => cases b with
    | none => cases h
    | some b => simp [Pc.size] at h; subst h; simp [Pc.at_, Pc.last]; omega
  | new l k n => rfl
theorem at_step {p : Pc} (hv : p.valid = true) (r : Int) : ole (p.at_ r) (p.at_ (r + 1)) := by
  cases p with
  | top n => trivial
  | old a b => exact ⟨by show a + r ≤ a + (r + 1); omega, by show a + r ≤ a + (r + 1); omega, fun _ _ => by show a + r < a + (r + 1); omega⟩
  | new l h n =>
    simp [Pc.valid] at hv
    exact ⟨Int.le_refl _, Int.le_refl _, fun e _ => by have e : l = h := e; omega⟩
theorem mayF_ole {p q : Pc} (hp : p.isOpen = false) (vp : p.valid = true) (vq : q.valid = true) : mayF p q = true ↔ ole p.last q.first := by
  have old : ∀ b c : Int, (decide (b ≤ c) && !decide (b = c)) = true ↔ b < c := fun b c => by simp; omega
  cases p with
  | top n => simp [mayF, ole, Pc.last]
  | old a b => cases b with
    | none => cases hp
    | some b => cases q with
      | top m => simp [mayF, ole, Pc.last, Pc.first]
      | old c d =>
        simp [mayF, ole, Pc.last, Pc.first, lle]
        omega
      | new l h m =>
        simp [Pc.valid] at vq
        simp [mayF, ole, Pc.last, Pc.first, lle]
        omega
  | new l h n => cases q with
    | top m => simp [mayF, ole, Pc.last, Pc.first]
    | old c d =>
      simp [Pc.valid] at vp
      simp [mayF, ole, Pc.last, Pc.first, lle]
      omega
    | new l' h' m =>
      simp [Pc.valid] at vp vq
      simp [mayF, ole, Pc.last, Pc.first, lle]
      omega
theorem okFrom_lay : ∀ (ps : List Pc) (b : Option Pc), ps ≠ [] → okFrom b ps = true → Lay ps ∧ (∀ q, b = some q → q.isOpen = false ∧ mayF q (ps.head?.getD (.top 0)) = true)
  | [], b, h, _ => absurd rfl h
  | p :: ps, b, _, h => by
    rw [okFrom_cons] at h
    simp only [Bool.and_eq_true] at h
    obtain ⟨⟨h1, h2⟩, h3⟩ := h
    refine ⟨?_, fun q e => ?_⟩
    · cases ps with
      | nil =>
        have h3 : p.isOpen = true := h3
        cases p with
        | old a b => cases b with
          | none => simp [Pc.valid] at h1; exact Lay.one h1
          | some b => cases h3
        | top n => cases h3
        | new l k n => cases h3
      | cons q ps =>
        obtain ⟨a1, a2⟩ := okFrom_lay (q :: ps) (some p) (by simp) h3
        exact Lay.cons h1 (a2 p rfl).1 a1
    · subst e
      simp only [Bool.and_eq_true, Bool.not_eq_true'] at h2
      exact ⟨h2.1, by simpa using h2.2⟩
/-- one row behind the other in pieces -/
theorem step_of : ∀ (ps : List Pc) (b : Option Pc), Lay ps → okFrom b ps = true → ∀ i, 0 ≤ i → ole (lab ps i) (lab ps (i + 1))
  | [], _, h, _, _, _ => absurd rfl h.ne
  | p :: ps, b, h, hb, i, hi => by
    rcases h.cases with ⟨a, rfl, rfl, ha⟩ | ⟨hv, ho, hl⟩
    · have := at_step (p := .old a none) (by simp [Pc.valid, ha]) i
      simpa [lab, Pc.size] using this
    · obtain ⟨s, hs⟩ := size_closed ho
      have h1 := size_pos hv hs
      rw [okFrom_cons] at hb
      simp only [Bool.and_eq_true] at hb
      simp only [lab, hs]
      by_cases e : i < s
      · rw [if_pos e]
        by_cases e2 : i + 1 < s
        · rw [if_pos e2]
          exact at_step hv i
        · rw [if_neg e2]
          have e3 : i = s - 1 := by omega
          subst e3
          rw [lab_last hs, show s - 1 + 1 - s = 0 by omega]
          cases ps with
          | nil => exact absurd rfl hl.ne
          | cons q ps =>
            rw [lab_head hl]
            have hb3 := hb.2
            rw [okFrom_cons] at hb3
            simp only [Bool.and_eq_true, Bool.not_eq_true'] at hb3
            exact (mayF_ole ho hv hb3.1.1).mp hb3.1.2.2
      · rw [if_neg e, if_neg (by omega)]
        have := step_of ps (some p) hl hb.2 (i - s) (by omega)
        rwa [show i - s + 1 = i + 1 - s by omega] at this
theorem lab_ok : ∀ (ps : List Pc), Lay ps → ∀ i x, 0 ≤ i → lab ps i = some x → labOk x
  | [], h, _, _, _, _ => absurd rfl h.ne
  | p :: ps, h, i, x, hi, e => by
    have key : ∀ p : Pc, p.valid = true → p.at_ i = some x → labOk x := by
      intro p hv e
      cases p with
      | top n => cases e
      | old a b =>
        cases e
        cases b <;> simp [Pc.valid] at hv <;> exact ⟨by show 0 ≤ a + i; omega, Int.le_refl _⟩
      | new l k n =>
        cases e
        simp [Pc.valid] at hv
        exact ⟨by show 0 ≤ l; omega, by show l ≤ k; omega⟩
    rcases h.cases with ⟨a, rfl, rfl, ha⟩ | ⟨hv, ho, hl⟩
    · exact key (.old a none) (by simp [Pc.valid, ha]) (by simpa [lab, Pc.size] using e)
    · obtain ⟨s, hs⟩ := size_closed ho
      simp only [lab, hs] at e
      by_cases e1 : i < s
      · rw [if_pos e1] at e
        exact key p hv e
      · rw [if_neg e1] at e
        exact lab_ok ps hl (i - s) x (by omega) e
theorem lab_tail {ps : List Pc} (h : Lay ps) : ∃ n v : Int, 0 ≤ n ∧ 0 ≤ v ∧ ∀ i, n ≤ i → lab ps i = some (v + (i - n), v + (i - n)) := by
  obtain ⟨init, a, rfl, h1, h2⟩ := h.ex
  refine ⟨tot init, a, tot_nonneg h1, h2, fun i hi => ?_⟩
  have := tot_nonneg h1
  rw [lab_app h1 (by omega), if_neg (by omega)]
  simp [lab, Pc.size, Pc.at_]
structure Whole (ps : List Pc) : Prop where
  lay : Lay ps
  good : Good (lab ps)
theorem ok_ne {ps : List Pc} (h : okPcs ps = true) : ps ≠ [] := by
  rintro rfl
  simp [okPcs, okFrom] at h
theorem whole_of {ps : List Pc} (h : okPcs ps = true) : Whole ps := by
  have hl := (okFrom_lay ps none (ok_ne h) h).1
  exact ⟨hl, mono_of (step_of ps none hl h), lab_ok ps hl, lab_tail hl⟩
theorem ok_of : ∀ (ps : List Pc) (b : Option Pc), Lay ps → (∀ i, 0 ≤ i → ole (lab ps i) (lab ps (i + 1))) → (∀ q, b = some q → q.isOpen = false ∧ mayF q (ps.head?.getD (.top 0)) = true) → okFrom b ps = true
  | [], b, h, _, _ => absurd rfl h.ne
  | p :: ps, b, h, hm, hb => by
    rw [okFrom_cons]
    have h2 : ∀ q, b = some q → (!q.isOpen && mayF q p) = true := fun q e => by
      obtain ⟨a1, a2⟩ := hb q e
      simp at a2
      simp [a1, a2]
    rcases h.cases with ⟨a, rfl, rfl, ha⟩ | ⟨hv, ho, hl⟩
    · cases b with
      | none => simp [okFrom, Pc.valid, ha]
      | some q => have := h2 q rfl; simp at this; simp [okFrom, Pc.valid, ha, this]
    · obtain ⟨s, hs⟩ := size_closed ho
      have h1 := size_pos hv hs
      have sh : ∀ i, 0 ≤ i → lab ps i = lab (p :: ps) (i + s) := fun i hi => by
        simp only [lab, hs]
        rw [if_neg (by omega), show i + s - s = i by omega]
      have ih := ok_of ps (some p) hl (fun i hi => by
        rw [sh i hi, sh (i + 1) (by omega), show i + 1 + s = i + s + 1 by omega]
        exact hm (i + s) (by omega)) (fun q e => by
        cases e
        refine ⟨ho, ?_⟩
        cases ps with
        | nil => exact absurd rfl hl.ne
        | cons q ps =>
          have e1 : lab (p :: q :: ps) (s - 1) = p.last := by
            simp only [lab, hs]
            rw [if_pos (by omega), lab_last hs]
          have e2 : lab (p :: q :: ps) (s - 1 + 1) = q.first := by
            rw [show s - 1 + 1 = 0 + s by omega, ← sh 0 (by omega), lab_head hl]
          have hq : q.valid = true := by
            rcases hl.cases with ⟨a, rfl, rfl, ha⟩ | ⟨hv, _, _⟩
            · simp [Pc.valid, ha]
            · exact hv
          have := hm (s - 1) (by omega)
          rw [e1, e2] at this
          exact (mayF_ole ho hv hq).mpr this)
      cases b with
      | none => simp [hv, ih]
      | some q => have := h2 q rfl; simp at this; simp [hv, ih, this]
theorem Whole.ok {ps : List Pc} (h : Whole ps) : okPcs ps = true := ok_of ps none h.lay (fun i hi => h.good.mono i (i + 1) hi (by omega)) (fun q e => by cases e)
end PR
/-! Q5: normal forms, inserted and deleted rows, in plain Lean. -/
namespace PR
def nrm : List Pc → Prop
  | [] => True
  | [_] => True
  | p :: q :: ps => weld p q = none ∧ nrm (q :: ps)
theorem nrm_snoc : ∀ {ps : List Pc} {q p : Pc}, nrm (ps ++ [q] ++ [p]) ↔ nrm (ps ++ [q]) ∧ weld q p = none
  | [], q, p => by simp [nrm]
  | [x], q, p => by simp [nrm, and_assoc]
  | x :: y :: ps, q, p => by
    have ih := nrm_snoc (ps := y :: ps) (q := q) (p := p)
    simp only [List.cons_append, nrm] at ih ⊢
    rw [ih, and_assoc]
theorem weld_same {p q b : Pc} (h : weld q p = some b) : sameH q b := by
  cases q with
  | top n => cases p <;> simp [weld] at h; subst h; trivial
  | old a c => cases c <;> cases p <;> simp [weld] at h; obtain ⟨_, rfl⟩ := h; rfl
  | new l k n => cases p <;> simp [weld] at h; obtain ⟨_, rfl⟩ := h; exact ⟨rfl, rfl⟩
theorem weld_none_same {x q b : Pc} (h : sameH q b) (w : weld x q = none) : weld x b = none := by
  cases x with
  | top n => cases q <;> cases b <;> simp [sameH] at h <;> simp_all [weld]
  | new l k n => cases q <;> cases b <;> simp [sameH] at h <;> simp_all [weld]
  | old a c => cases c <;> cases q <;> cases b <;> simp [sameH] at h <;> simp_all [weld]
theorem nrm_last {ps : List Pc} {q b : Pc} (h : sameH q b) (c : nrm (ps ++ [q])) : nrm (ps ++ [b]) := by
  rcases List.eq_nil_or_concat ps with rfl | ⟨init, r, rfl⟩
  · trivial
  · rw [List.concat_eq_append, nrm_snoc] at c ⊢
    exact ⟨c.1, weld_none_same h c.2⟩
/-- what a weld is -/
theorem weld_ok {p q b : Pc} (hq : q.valid = true) (ho : q.isOpen = false) (hp : p.valid = true) (h : weld q p = some b) :
    b.valid = true ∧ b.isOpen = p.isOpen ∧ ∀ rest r, 0 ≤ r → lab (b :: rest) r = lab (q :: p :: rest) r := by
  cases q with
  | top n =>
    cases p <;> simp [weld] at h
    rename_i m
    subst h
    simp [Pc.valid] at *
    refine ⟨by omega, fun rest r hr => ?_⟩
    simp only [lab, Pc.size]
    by_cases e : r < n
    · rw [if_pos (by omega), if_pos e]
      rfl
    · rw [if_neg e]
      by_cases e2 : r - n < m
      · rw [if_pos (by omega), if_pos e2]
        rfl
      · rw [if_neg (by omega), if_neg e2]
        congr 1
        omega
  | old a c =>
    cases c with
    | none => cases ho
    | some c =>
      cases p <;> simp [weld] at h
      rename_i d e
      obtain ⟨rfl, rfl⟩ := h
      cases e with
      | none =>
        simp [Pc.valid] at *
        refine ⟨by omega, fun rest r hr => ?_⟩
        simp only [lab, Pc.size]
        by_cases e : r < c - a + 1
        · rw [if_pos e]
          rfl
        · rw [if_neg e]
          simp [Pc.at_]
          omega
      | some e =>
        simp [Pc.valid] at *
        refine ⟨by omega, fun rest r hr => ?_⟩
        simp only [lab, Pc.size]
        by_cases e1 : r < c - a + 1
        · rw [if_pos e1, if_pos (by omega)]
          rfl
        · rw [if_neg e1]
          by_cases e2 : r - (c - a + 1) < e - (c + 1) + 1
          · rw [if_pos e2, if_pos (by omega)]
            simp [Pc.at_]
            omega
          · rw [if_neg e2, if_neg (by omega)]
            congr 1
            omega
  | new l k n =>
    cases p <;> simp [weld] at h
    rename_i l' k' m
    obtain ⟨⟨rfl, rfl⟩, rfl⟩ := h
    simp [Pc.valid] at *
    refine ⟨by omega, fun rest r hr => ?_⟩
    simp only [lab, Pc.size]
    by_cases e : r < n
    · rw [if_pos (by omega), if_pos e]
      rfl
    · rw [if_neg e]
      by_cases e2 : r - n < m
      · rw [if_pos (by omega), if_pos e2]
        rfl
      · rw [if_neg (by omega), if_neg e2]
        congr 1
        omega
/-- the same rows -/
def sameRows (ps qs : List Pc) : Prop := ∀ r, 0 ≤ r → lab ps r = lab qs r
theorem sameRows.app {ps qs : List Pc} (xs : List Pc) (hx : allC xs) (h : sameRows ps qs) : sameRows (xs ++ ps) (xs ++ qs) := fun r hr => by
  rw [lab_app hx hr, lab_app hx hr]
  split
  · rfl
  · exact h _ (by have := tot_nonneg hx; omega)
theorem snoc_cases {α : Type} (xs : List α) : xs = [] ∨ ∃ init x, xs = init ++ [x] := by
  rcases List.eq_nil_or_concat xs with h | ⟨i, x, h⟩
  · exact .inl h
  · exact .inr ⟨i, x, by rw [h, List.concat_eq_append]⟩
structure NormOk (found ps R : List Pc) : Prop where
  lay : Lay R
  nr : nrm R
  eq : sameRows R (found ++ ps)
  ln : R.length ≤ found.length + ps.length
theorem normF_ok {found : List Pc} {p : Pc} (hf : allC found) (hn : nrm found) (hp : p.valid = true) :
    nrm (normF found p) ∧ (∀ rest, sameRows (normF found p ++ rest) (found ++ p :: rest)) ∧ (normF found p).length ≤ found.length + 1 ∧ (∃ init b, normF found p = init ++ [b] ∧ allC init ∧ b.valid = true ∧ b.isOpen = p.isOpen) := by
  rcases snoc_cases found with rfl | ⟨init, q, rfl⟩
  · exact ⟨trivial, fun rest r hr => rfl, by simp [normF], [], p, rfl, by simp [allC], hp, rfl⟩
  · obtain ⟨h1, h2⟩ := allC_app.mp hf
    obtain ⟨hq, ho⟩ := h2 q (by simp)
    cases hw : weld q p with
    | none =>
      have e : normF (init ++ [q]) p = init ++ [q] ++ [p] := by simp [normF, hw]
      rw [e]
      exact ⟨nrm_snoc.mpr ⟨hn, hw⟩, fun rest r hr => by simp, by simp, init ++ [q], p, rfl, hf, hp, rfl⟩
    | some b =>
      have e : normF (init ++ [q]) p = init ++ [b] := by simp [normF, hw]
      rw [e]
      obtain ⟨w1, w2, w3⟩ := weld_ok hq ho hp hw
      refine ⟨nrm_last (weld_same hw) hn, fun rest => ?_, by simp, init, b, rfl, h1, w1, w2⟩
      have := sameRows.app init h1 (w3 rest)
      simpa using this
theorem fold_ok : ∀ (ps found : List Pc), Lay ps → allC found → nrm found → NormOk found ps (ps.foldl normF found)
  | [], _, h, _, _ => absurd rfl h.ne
  | p :: ps, found, h, hf, hn => by
    rw [List.foldl_cons]
    rcases h.cases with ⟨a, rfl, rfl, ha⟩ | ⟨hv, ho, hl⟩
    · obtain ⟨n1, n2, n3, init, b, n4, n5, n6, n7⟩ := normF_ok hf hn (p := .old a none) (by simp [Pc.valid, ha])
      refine ⟨?_, n1, by simpa using n2 [], by simpa using n3⟩
      rw [List.foldl_nil, n4]
      cases b with
      | old c d => cases d with
        | none =>
          simp [Pc.valid] at n6
          exact ⟨init, c, rfl, n5, n6⟩
        | some d => simp at n7
      | top n => simp at n7
      | new l k n => simp at n7
    · obtain ⟨n1, n2, n3, init, b, n4, n5, n6, n7⟩ := normF_ok hf hn hv
      have hc : allC (normF found p) := by
        rw [n4]
        refine allC_app.mpr ⟨n5, fun x hx => ?_⟩
        simp at hx
        subst hx
        exact ⟨n6, by rw [n7, ho]⟩
      obtain ⟨r1, r2, r3, r4⟩ := fold_ok ps (normF found p) hl hc n1
      refine ⟨r1, r2, fun r hr => by rw [r3 r hr, n2 ps r hr], by simp; omega⟩
theorem norm_ok {ps : List Pc} (h : Lay ps) : NormOk [] ps (norm ps) := fold_ok ps [] h (by simp [allC]) trivial
theorem Whole.of_rows {ps qs : List Pc} (h : Whole ps) (hl : Lay qs) (e : sameRows qs ps) : Whole qs := by
  refine ⟨hl, fun i j hi hj => by rw [e i hi, e j (by omega)]; exact h.good.mono i j hi hj, fun i x hi hx => h.good.ok i x hi (by rw [← e i hi]; exact hx), lab_tail hl⟩
theorem Whole.norm {ps : List Pc} (h : Whole ps) : Whole (norm ps) ∧ nrm (norm ps) ∧ sameRows (norm ps) ps := by
  have n := norm_ok h.lay
  have e : sameRows (PR.norm ps) ps := n.eq
  exact ⟨h.of_rows n.lay e, n.nr, e⟩
end PR
/-! Q6: commands on rows, in plain Lean. -/
namespace PR
abbrev Rf := Int → Option Lab
def midL (x y : Option Lab) : Option Lab := match x, y with
  | some x, some y => some (x.1, y.2)
  | _, _ => none
/-- rows inserted, deleted -/
def insL (f : Rf) (i n : Int) : Rf := fun r => if r < i then f r else if r < i + n then (if i = 0 then none else midL (f (i - 1)) (f i)) else f (r - n)
def delL (f : Rf) (a b : Int) : Rf := fun r => if r < a then f r else f (r + (b - a + 1))
def cmdL (f : Rf) : Cmd → Rf
  | .ins i n => insL f i n
  | .del a b => delL f a b
theorem mid_ok {x y : Lab} (hx : labOk x) (hy : labOk y) (h : lle x y) : x.1 < y.2 := by
  obtain ⟨h1, h2, h3⟩ := h
  have a := hx.2
  have b := hy.2
  by_cases e : x.1 = x.2
  · by_cases e2 : y.1 = y.2
    · have := h3 e e2
      omega
    · omega
  · omega
theorem midL_spec {f : Rf} (g : Good f) {i : Int} (hi : 0 < i) : ole (f (i - 1)) (midL (f (i - 1)) (f i)) ∧ ole (midL (f (i - 1)) (f i)) (f i) ∧ ole (midL (f (i - 1)) (f i)) (midL (f (i - 1)) (f i)) ∧ (∀ x, midL (f (i - 1)) (f i) = some x → 0 ≤ x.1 ∧ x.1 < x.2) := by
  have m := g.mono (i - 1) i (by omega) (by omega)
  have o1 := g.ok (i - 1)
  have o2 := g.ok i
  cases h1 : f (i - 1) with
  | none => refine ⟨trivial, trivial, trivial, fun x e => by cases h2 : f i <;> rw [h2] at e <;> cases e⟩
  | some x => cases h2 : f i with
    | none => rw [h1, h2] at m; exact m.elim
    | some y =>
      rw [h1, h2] at m
      have k1 := o1 x (by omega) h1
      have k2 := o2 y (by omega) h2
      have k := mid_ok k1 k2 m
      obtain ⟨m1, m2, m3⟩ := m
      refine ⟨⟨Int.le_refl _, m2, fun _ e => ?_⟩, ⟨m1, Int.le_refl _, fun e _ => ?_⟩, ⟨Int.le_refl _, Int.le_refl _, fun e _ => ?_⟩, fun z e => ?_⟩
      · have e : x.1 = y.2 := e; omega
      · have e : x.1 = y.2 := e; omega
      · have e : x.1 = y.2 := e; omega
      · cases e
        exact ⟨k1.1, k⟩
theorem Good.ins {f : Rf} (g : Good f) {i n : Int} (hi : 0 ≤ i) (hn : 1 ≤ n) : Good (insL f i n) := by
  have fr : ∀ r, r < i → insL f i n r = f r := fun r h => by unfold insL; rw [if_pos h]
  have bk : ∀ r, i + n ≤ r → insL f i n r = f (r - n) := fun r h => by unfold insL; rw [if_neg (by omega), if_neg (by omega)]
  have md : ∀ r, i ≤ r → r < i + n → insL f i n r = if i = 0 then none else midL (f (i - 1)) (f i) := fun r h h2 => by unfold insL; rw [if_neg (by omega), if_pos h2]
  refine ⟨fun r t h0 hrt => ?_, fun r x h0 e => ?_, ?_⟩
  · by_cases c1 : t < i
    · rw [fr r (by omega), fr t c1]
      exact g.mono r t h0 hrt
    · by_cases c2 : i + n ≤ r
      · rw [bk r c2, bk t (by omega)]
        exact g.mono _ _ (by omega) (by omega)
      · by_cases e0 : i = 0
        · rw [md r (by omega) (by omega), if_pos e0]
          trivial
        · obtain ⟨s1, s2, s3, s4⟩ := midL_spec g (i := i) (by omega)
          have lo : ∀ r, 0 ≤ r → r < i → ole (f r) (f (i - 1)) ∨ r = i - 1 := fun r h h2 => by
            by_cases z : r = i - 1
            · exact .inr z
            · exact .inl (g.mono r (i - 1) h (by omega))
          by_cases c3 : r < i
          · rw [fr r c3]
            by_cases c4 : t < i + n
            · rw [md t (by omega) c4, if_neg e0]
              rcases lo r h0 c3 with z | z
              · exact ole_trans z s1
              · rw [z]; exact s1
            · rw [bk t (by omega)]
              exact g.mono _ _ h0 (by omega)
          · rw [md r (by omega) (by omega), if_neg e0]
            by_cases c4 : t < i + n
            · rw [md t (by omega) c4, if_neg e0]
              exact s3
            · rw [bk t (by omega)]
              by_cases z : t - n = i
              · rw [z]; exact s2
              · exact ole_trans s2 (g.mono i (t - n) hi (by omega))
  · by_cases c1 : r < i
    · rw [fr r c1] at e; exact g.ok r x h0 e
    · by_cases c2 : r < i + n
      · rw [md r (by omega) c2] at e
        by_cases e0 : i = 0
        · rw [if_pos e0] at e; cases e
        · rw [if_neg e0] at e
          have := (midL_spec g (i := i) (by omega)).2.2.2 x e
          exact ⟨this.1, by omega⟩
      · rw [bk r (by omega)] at e
        exact g.ok _ x (by omega) e
  · obtain ⟨m, v, h1, h2, h3⟩ := g.tail
    refine ⟨max (i + n) (m + n), v + (max (i + n) (m + n) - n - m), by omega, by omega, fun r hr => ?_⟩
    rw [bk r (by omega), h3 _ (by omega)]
    congr 2 <;> omega
theorem Good.del {f : Rf} (g : Good f) {a b : Int} (ha : 0 ≤ a) (hb : a ≤ b) : Good (delL f a b) := by
  have fr : ∀ r, r < a → delL f a b r = f r := fun r h => by unfold delL; rw [if_pos h]
  have bk : ∀ r, a ≤ r → delL f a b r = f (r + (b - a + 1)) := fun r h => by unfold delL; rw [if_neg (by omega)]
  refine ⟨fun r t h0 hrt => ?_, fun r x h0 e => ?_, ?_⟩
  · by_cases c1 : t < a
    · rw [fr r (by omega), fr t c1]
      exact g.mono r t h0 hrt
    · rw [bk t (by omega)]
      by_cases c2 : r < a
      · rw [fr r c2]
        exact g.mono _ _ h0 (by omega)
      · rw [bk r (by omega)]
        exact g.mono _ _ (by omega) (by omega)
  · by_cases c1 : r < a
    · rw [fr r c1] at e; exact g.ok r x h0 e
    · rw [bk r (by omega)] at e
      exact g.ok _ x (by omega) e
  · obtain ⟨m, v, h1, h2, h3⟩ := g.tail
    refine ⟨max a m, v + (max a m + (b - a + 1) - m), by omega, by omega, fun r hr => ?_⟩
    rw [bk r (by omega), h3 _ (by omega)]
    congr 2 <;> omega
theorem Good.cmd {f : Rf} (g : Good f) {c : Cmd} (h : c.ok = true) : Good (cmdL f c) := by
  cases c with
  | ins i n => simp [Cmd.ok] at h; exact g.ins h.1 h.2
  | del a b => simp [Cmd.ok] at h; exact g.del h.1 h.2
/-! ### the pieces behind a command -/
theorem lab_one {p : Pc} {n : Int} {ps : List Pc} (hs : p.size = some n) {r : Int} : lab (p :: ps) r = if r < n then p.at_ r else lab ps (r - n) := by
  simp only [lab, hs]
structure CmdOk (ps : List Pc) (c : Cmd) (R : List Pc) : Prop where
  wh : Whole R
  nr : nrm R
  eq : ∀ r, 0 ≤ r → lab R r = cmdL (lab ps) c r
  ln : R.length ≤ ps.length + 2
theorem CmdOk.of {ps qs : List Pc} {c : Cmd} (h : Whole ps) (hc : c.ok = true) (hl : Lay qs) (e : ∀ r, 0 ≤ r → lab qs r = cmdL (lab ps) c r) (ln : qs.length ≤ ps.length + 2) : CmdOk ps c (norm qs) := by
  have g := h.good.cmd hc
  have w : Whole qs := ⟨hl, fun i j hi hj => by rw [e i hi, e j (by omega)]; exact g.mono i j hi hj, fun i x hi hx => g.ok i x hi (by rw [← e i hi]; exact hx), lab_tail hl⟩
  obtain ⟨n1, n2, n3⟩ := w.norm
  refine ⟨n1, n2, fun r hr => by rw [n3 r hr, e r hr], ?_⟩
  have := (norm_ok hl).ln
  simp at this
  omega
end PR
/-! Q7: counted rows, carried spans, in plain Lean. -/
namespace PR
/-- rows without a label, or with a low (high) less than t -/
def sel (k : Bool) (x : Lab) : Int := if k then x.2 else x.1
def cntF (k : Bool) : List Pc → Int → Int
  | [], _ => 0
  | p :: ps, t => match p.first with
    | none => p.size.getD 0 + cntF k ps t
    | some x => if t - sel k x ≤ 0 then 0 else if p.isOld = true ∧ (p.size = none ∨ t - sel k x < p.size.getD 0) then t - sel k x else p.size.getD 0 + cntF k ps t
def overL (k : Bool) (t : Int) : Option Lab → Bool
  | none => false
  | some x => decide (t ≤ sel k x)
/-- from r on -/
structure Thr (P : Option Lab → Bool) (f : Rf) (r : Int) : Prop where
  nn : 0 ≤ r
  iff : ∀ i, 0 ≤ i → (P (f i) = true ↔ r ≤ i)
theorem over_mono {k : Bool} {t : Int} {x y : Option Lab} (h : ole x y) (hx : overL k t x = true) : overL k t y = true := by
  cases x with
  | none => cases hx
  | some x => cases y with
    | none => exact h.elim
    | some y =>
      have a := h.1
      have b := h.2.1
      cases k <;> simp [overL, sel] at * <;> omega
theorem Good.shift {p : Pc} {ps : List Pc} {s : Int} (hs : p.size = some s) (h1 : 1 ≤ s) (hl : Lay ps) (g : Good (lab (p :: ps))) : Good (lab ps) := by
  have sh : ∀ i, 0 ≤ i → lab ps i = lab (p :: ps) (i + s) := fun i hi => by
    simp only [lab, hs]
    rw [if_neg (by omega), show i + s - s = i by omega]
  exact ⟨fun i j hi hj => by rw [sh i hi, sh j (by omega)]; exact g.mono _ _ (by omega) (by omega), fun i x hi e => g.ok (i + s) x (by omega) (by rw [← sh i hi]; exact e), lab_tail hl⟩
theorem cntF_ok (k : Bool) (t : Int) : ∀ ps : List Pc, Lay ps → Good (lab ps) → Thr (overL k t) (lab ps) (cntF k ps t)
  | [], h, _ => absurd rfl h.ne
  | p :: ps, h, g => by
    have all0 : ∀ x, p.first = some x → t - sel k x ≤ 0 → Thr (overL k t) (lab (p :: ps)) 0 := fun x hx ht => by
      refine ⟨Int.le_refl _, fun i hi => ⟨fun _ => hi, fun _ => ?_⟩⟩
      have h0 : overL k t (lab (p :: ps) 0) = true := by
        rw [lab_head h, hx]
        simp [overL]
        omega
      by_cases e : i = 0
      · rw [e]; exact h0
      · exact over_mono (g.mono 0 i (Int.le_refl _) (by omega)) h0
    rcases h.cases with ⟨a, rfl, rfl, ha⟩ | ⟨hv, ho, hl⟩
    · have e0 : sel k (a, a) = a := by cases k <;> rfl
      simp only [cntF, Pc.first, e0, isOld_o, Pc.size]
      by_cases c : t - a ≤ 0
      · rw [if_pos c]
        exact all0 (a, a) rfl (by rw [e0]; exact c)
      · rw [if_neg c, if_pos (by simp)]
        refine ⟨by omega, fun i hi => ?_⟩
        simp only [lab, Pc.size, Pc.at_, overL]
        rw [decide_eq_true_iff]
        cases k <;> simp [sel] <;> omega
    · obtain ⟨s, hs⟩ := size_closed ho
      have h1 := size_pos hv hs
      have ih := cntF_ok k t ps hl (g.shift hs h1 hl)
      have ext : (∀ i, 0 ≤ i → i < s → overL k t (p.at_ i) = false) → Thr (overL k t) (lab (p :: ps)) (s + cntF k ps t) := fun low => by
        have n0 := ih.nn
        refine ⟨by omega, fun i hi => ?_⟩
        rw [lab_one hs]
        by_cases e : i < s
        · rw [if_pos e, low i hi e]
          constructor
          · intro z; cases z
          · omega
        · rw [if_neg e, ih.iff _ (by omega)]
          omega
      cases hf : p.first with
      | none =>
        simp only [cntF, hf, hs, Option.getD_some]
        refine ext fun i _ _ => ?_
        cases p with
        | top n => rfl
        | old a b => cases hf
        | new l h n => cases hf
      | some x =>
        simp only [cntF, hf, hs, Option.getD_some]
        by_cases c : t - sel k x ≤ 0
        · rw [if_pos c]
          exact all0 x hf c
        · rw [if_neg c]
          cases p with
          | top n => cases hf
          | new l h n =>
            cases hf
            rw [if_neg (by simp)]
            refine ext fun i _ _ => ?_
            simp [Pc.at_, overL]
            omega
          | old a b =>
            cases hf
            have e0 : sel k (a, a) = a := by cases k <;> rfl
            rw [e0] at c ⊢
            by_cases c2 : t - a < s
            · rw [if_pos (by simp [c2])]
              refine ⟨by omega, fun i hi => ?_⟩
              by_cases e : i < s
              · rw [lab_one hs, if_pos e]
                simp only [Pc.at_, overL]
                rw [decide_eq_true_iff]
                cases k <;> simp [sel] <;> omega
              · have hm : overL k t (lab (Pc.old a b :: ps) (t - a)) = true := by
                  rw [lab_one hs, if_pos c2]
                  simp only [Pc.at_, overL]
                  rw [decide_eq_true_iff]
                  cases k <;> simp [sel] <;> omega
                exact ⟨fun _ => by omega, fun _ => over_mono (g.mono (t - a) i (by omega) (by omega)) hm⟩
            · rw [if_neg (by simp; omega)]
              refine ext fun i h0 h2 => ?_
              simp only [Pc.at_, overL]
              rw [decide_eq_false_iff_not]
              cases k <;> simp [sel] <;> omega
def rbF (ps : List Pc) (a : Int) : Int := cntF false ps a
def rwF (ps : List Pc) (b : Int) : Int := cntF true ps (b + 1)
abbrev Span := Int × Option Int
/-- what pieces make of a span -/
def carF (ps : List Pc) (s : Span) : Option Span := match s.2 with
  | none => some (rbF ps s.1, none)
  | some b => if rwF ps b - 1 < rbF ps s.1 then none else some (rbF ps s.1, some (rwF ps b - 1))
def Span.ok (s : Span) : Bool := decide (0 ≤ s.1) && (match s.2 with
  | none => true
  | some b => decide (s.1 ≤ b))
/-- a row is in a span -/
def inL (a b : Int) : Option Lab → Bool
  | none => false
  | some x => decide (a ≤ x.1) && decide (x.2 ≤ b)
theorem rb_mem {ps : List Pc} (h : Whole ps) (a : Int) {i : Int} (hi : 0 ≤ i) : (∃ x, lab ps i = some x ∧ a ≤ x.1) ↔ rbF ps a ≤ i := by
  have t1 := (cntF_ok false a ps h.lay h.good).iff i hi
  unfold rbF
  rw [← t1]
  cases lab ps i with
  | none => simp [overL]
  | some x => simp [overL, sel]
theorem rb_nn {ps : List Pc} (h : Whole ps) (a : Int) : 0 ≤ rbF ps a := (cntF_ok false a ps h.lay h.good).nn
theorem rw_nn {ps : List Pc} (h : Whole ps) (b : Int) : 0 ≤ rwF ps b := (cntF_ok true (b + 1) ps h.lay h.good).nn
end PR
/-! M2: cutting pieces, commands, what is carried: promises. -/
namespace PR
open PySem PySem.Spec PyProof.Rows L2 DL
def Cmd.d : Cmd → D
  | .ins i n => .tup [.str "insert", .int i, .int n]
  | .del a b => .tup [.str "delete", .int a, .int b]
theorem Cmd.d_ins (i n : Int) : (Cmd.ins i n).d = .tup [.str "insert", .int i, .int n] := rfl
theorem Cmd.d_del (i n : Int) : (Cmd.del i n).d = .tup [.str "delete", .int i, .int n] := rfl
@[simp] theorem Cmd.imm_d (c : Cmd) : c.d.imm = true := by cases c <;> rfl
@[simp] theorem Cmd.d_inj {p q : Cmd} : p.d = q.d ↔ p = q := by
  cases p <;> cases q <;> simp [Cmd.d]
/-- any other word ahead of two numbers -/
def oddW (w : Str) (a b : Int) : Bool := PyData.strOk w && decide (w ≠ "insert") && decide (w ≠ "delete") && decide (¬ (w = "move" ∧ a = 1 ∧ b = 2)) && decide (¬ (w = "Insert" ∧ a = 1 ∧ b = 1)) && decide (¬ (w = "" ∧ a = 1 ∧ b = 1))
/-- tuples that are no commands -/
inductive Odd where
  | move | ins1 | nil | Ins | del3 | del0 | empty | del31
  | any (w : Str) (a b : Int) (h : oddW w a b = true)
  deriving DecidableEq
theorem oddW_ok {w : Str} {a b : Int} (h : oddW w a b = true) : PyData.strOk w = true ∧ w ≠ "insert" ∧ w ≠ "delete" ∧ ¬ (w = "move" ∧ a = 1 ∧ b = 2) ∧ ¬ (w = "Insert" ∧ a = 1 ∧ b = 1) ∧ ¬ (w = "" ∧ a = 1 ∧ b = 1) := by
  unfold oddW at h
  rw [Bool.and_eq_true, Bool.and_eq_true, Bool.and_eq_true, Bool.and_eq_true, Bool.and_eq_true] at h
  obtain ⟨⟨⟨⟨⟨h1, h2⟩, h3⟩, h4⟩, h5⟩, h6⟩ := h
  exact ⟨h1, of_decide_eq_true h2, of_decide_eq_true h3, of_decide_eq_true h4, of_decide_eq_true h5, of_decide_eq_true h6⟩
def Odd.d : Odd → D
  | .move => .tup [.str "move", .int 1, .int 2]
  | .ins1 => .tup [.str "insert", .int 1]
  | .nil => .tup []
  | .Ins => .tup [.str "Insert", .int 1, .int 1]
  | .del3 => .tup [.str "delete", .int 0, .int 0, .int 0]
  | .del0 => .tup [.str "delete"]
  | .empty => .tup [.str "", .int 1, .int 1]
  | .del31 => .tup [.str "delete", .int 1, .int 1, .int 1]
  | .any w a b _ => .tup [.str w, .int a, .int b]
inductive Itm where
  | cmd (c : Cmd) | odd (o : Odd)
def Itm.d : Itm → D
  | .cmd c => c.d
  | .odd o => o.d
def Itm.ok : Itm → Bool
  | .cmd c => c.ok
  | .odd _ => false
@[simp] theorem Itm.imm_d (it : Itm) : it.d.imm = true := by
  cases it with
  | cmd c => exact Cmd.imm_d c
  | odd o => cases o <;> rfl
theorem Odd.ne_cmd (c : Cmd) (o : Odd) : ¬ c.d = o.d := by
  cases o with
  | any w a b h =>
    obtain ⟨_, h2, h3, _⟩ := oddW_ok h
    cases c <;> simp [Cmd.d, Odd.d] <;> intro e
    · exact absurd e.symm h2
    · exact absurd e.symm h3
  | _ => cases c <;> simp [Cmd.d, Odd.d] <;> decide
theorem Odd.d_inj {p q : Odd} : p.d = q.d ↔ p = q := by
  cases p with
  | any w a b h =>
    obtain ⟨_, _, _, h4, h5, h6⟩ := oddW_ok h
    cases q with
    | any w' a' b' h' => simp [Odd.d]
    | move => simp only [Odd.d]; simp; exact fun e1 e2 e3 => h4 ⟨e1, e2, e3⟩
    | Ins => simp only [Odd.d]; simp; exact fun e1 e2 e3 => h5 ⟨e1, e2, e3⟩
    | empty => simp only [Odd.d]; simp; exact fun e1 e2 e3 => h6 ⟨e1, e2, e3⟩
    | _ => simp [Odd.d]
  | _ =>
    cases q with
    | any w' a' b' h' =>
      obtain ⟨_, _, _, h4, h5, h6⟩ := oddW_ok h'
      simp only [Odd.d]
      simp
      try first | (exact fun e1 e2 e3 => h4 ⟨e1.symm, e2.symm, e3.symm⟩) | (exact fun e1 e2 e3 => h5 ⟨e1.symm, e2.symm, e3.symm⟩) | (exact fun e1 e2 e3 => h6 ⟨e1.symm, e2.symm, e3.symm⟩)
    | _ => simp [Odd.d] <;> decide
@[simp] theorem Itm.d_inj {p q : Itm} : p.d = q.d ↔ p = q := by
  cases p with
  | cmd c => cases q with
    | cmd c' => simp [Itm.d]
    | odd o => simpa [Itm.d] using Odd.ne_cmd c o
  | odd o => cases q with
    | cmd c' => simpa [Itm.d] using fun z => Odd.ne_cmd c' o (Eq.symm z)
    | odd o' => simpa [Itm.d] using Odd.d_inj
def cmdsD (cs : List Cmd) : List D := cs.map Cmd.d
@[simp] theorem imm_cmds (cs : List Cmd) : immAll (cmdsD cs) = true := by
  induction cs with
  | nil => rfl
  | cons p ps ih => simpa [cmdsD] using ih
@[simp] theorem imm_cmds' (cs : List Cmd) : immAll (cs.map Cmd.d) = true := imm_cmds cs
@[simp] theorem cmdsD_len (cs : List Cmd) : (cmdsD cs).length = cs.length := by simp [cmdsD]
def spanD (s : Span) : D := .tup [.int s.1, oD s.2]
@[simp] theorem imm_oD (b : Option Int) : (oD b).imm = true := by cases b <;> rfl
@[simp] theorem imm_span (s : Span) : (spanD s).imm = true := by simp [spanD]
def ospD : Option Span → D
  | none => .non
  | some s => spanD s
@[simp] theorem imm_osp (s : Option Span) : (ospD s).imm = true := by cases s <;> simp [ospD]
def PLAIN : List Pc := [.old 0 none]
def runF (ps : List Pc) (cs : List Cmd) : List Pc := cs.foldl cmdF ps
def stD : Option (List Pc) → D
  | none => .non
  | some ps => layD ps
def C_parts_of : Ctr := fun ds Q => ∃ (p : Pc) (k : Int), ds = [p.d, .int k] ∧ Q (.v 2 (.tup [(p.cut1 k).d, (p.cut2 k).d]))
def C_cut : Ctr := fun ds Q => ∃ (ps : List Pc) (tu : Bool) (k : Int), ds = [seqOf tu (pcsD ps), .int k] ∧ Lay ps ∧ 0 ≤ k ∧ ps.length < 1000 ∧ Q (.v 2 (.tup [.lst (pcsD (cutF ps k).1), .lst (pcsD (cutF ps k).2)]))
def C_inserted : Ctr := fun ds Q => ∃ (ps : List Pc) (i n : Int), ds = [.lst (pcsD ps), .int i, .int n] ∧ Whole ps ∧ 0 ≤ i ∧ 1 ≤ n ∧ ps.length < 990 ∧ Q (.own (pcsD (insF ps i n)))
def C_deleted : Ctr := fun ds Q => ∃ (ps : List Pc) (a b : Int), ds = [.lst (pcsD ps), .int a, .int b] ∧ Whole ps ∧ 0 ≤ a ∧ a ≤ b ∧ ps.length < 990 ∧ Q (.own (pcsD (delF ps a b)))
def C_changed : Ctr := fun ds Q => ∃ (ps : List Pc) (c : Cmd), ds = [.lst (pcsD ps), c.d] ∧ Whole ps ∧ c.ok = true ∧ ps.length < 990 ∧ Q (.own (pcsD (cmdF ps c)))
def C_is_command : Ctr := fun ds Q => ∃ c : Itm, ds = [c.d] ∧ Q (.v 2 (.bl c.ok))
def C_check_script : Ctr := fun ds Q => ∃ (cs : List Cmd) (tu : Bool), ds = [seqOf tu (cmdsD cs)] ∧ (∀ c ∈ cs, c.ok = true) ∧ Q (.v 2 .non)
def C_run : Ctr := fun ds Q => ∃ (cs : List Cmd) (tu : Bool) (st : Option (List Pc)), ds = [seqOf tu (cmdsD cs), stD st] ∧ (∀ c ∈ cs, c.ok = true) ∧ (∀ ps, st = some ps → Whole ps ∧ nrm ps ∧ ps.length ≤ 60) ∧ cs.length ≤ 420 ∧ (runF (st.getD PLAIN) cs).length ≤ 60 ∧
  Q (.v 2 (layD (runF (st.getD PLAIN) cs)))
def C_is_span : Ctr := fun ds Q => ∃ s : Span, ds = [spanD s] ∧ Q (.v 2 (.bl s.ok))
def C_check_span : Ctr := fun ds Q => ∃ s : Span, ds = [spanD s] ∧ s.ok = true ∧ Q (.v 2 .non)
def C_rows_below : Ctr := fun ds Q => ∃ (ps : List Pc) (tu : Bool) (a : Int), ds = [seqOf tu (pcsD ps), .int a] ∧ Lay ps ∧ Q (.v 2 (.int (rbF ps a)))
def C_rows_within : Ctr := fun ds Q => ∃ (ps : List Pc) (tu : Bool) (b : Int), ds = [seqOf tu (pcsD ps), .int b] ∧ Lay ps ∧ Q (.v 2 (.int (rwF ps b)))
def C_carried_in : Ctr := fun ds Q => ∃ (ps : List Pc) (tu : Bool) (s : Span), ds = [seqOf tu (pcsD ps), spanD s] ∧ Lay ps ∧ Q (.v 2 (ospD (carF ps s)))
def C_carried : Ctr := fun ds Q => ∃ (ps : List Pc) (s : Span), ds = [layD ps, spanD s] ∧ Lay ps ∧ s.ok = true ∧ Q (.v 2 (ospD (carF ps s)))
/-! plain facts about runs -/
end PR
/-! U1: promises as rewrites. -/
namespace PR
open PySem PySem.Spec PyProof.Rows L2 DL
theorem pcsD_inj : ∀ {ps qs : List Pc}, pcsD ps = pcsD qs ↔ ps = qs
  | [], [] => by simp
  | [], q :: qs => by simp
  | p :: ps, [] => by simp
  | p :: ps, q :: qs => by simp [pcsD_inj (ps := ps) (qs := qs)]
@[simp] theorem lst_seqOf {tu : Bool} {ds es : List D} : D.lst ds = seqOf tu es ↔ tu = false ∧ ds = es := by cases tu <;> simp [seqOf]
@[simp] theorem tup_seqOf {tu : Bool} {ds es : List D} : D.tup ds = seqOf tu es ↔ tu = true ∧ ds = es := by cases tu <;> simp [seqOf]
theorem spanD_inj {s t : Span} : spanD s = spanD t ↔ s = t := by
  obtain ⟨a, b⟩ := s
  obtain ⟨c, d⟩ := t
  simp [spanD]
section
variable {Q : Sl → Prop}
@[simp ↓] theorem use_size_of {p : Pc} : C_size_of [p.d] Q = Q (.v 2 (oD p.size)) := by simp [C_size_of]
@[simp ↓] theorem use_first_label {p : Pc} : C_first_label [p.d] Q = Q (.v 2 (oL p.first)) := by simp [C_first_label]
@[simp ↓] theorem use_last_label {p : Pc} : C_last_label [p.d] Q = Q (.v 2 p.lastD) := by simp [C_last_label]
@[simp ↓] theorem use_parts_of {p : Pc} {k : Int} : C_parts_of [p.d, .int k] Q = Q (.v 2 (.tup [(p.cut1 k).d, (p.cut2 k).d])) := by
  apply propext
  constructor
  · rintro ⟨p', k', e, q⟩
    simp at e
    obtain ⟨rfl, rfl⟩ := e
    exact q
  · exact fun q => ⟨p, k, rfl, q⟩
@[simp ↓] theorem use_is_itm {c : Itm} : C_is_command [c.d] Q = Q (.v 2 (.bl c.ok)) := by simp [C_is_command]
@[simp ↓] theorem use_is_command {c : Cmd} : C_is_command [c.d] Q = Q (.v 2 (.bl c.ok)) := use_is_itm (c := .cmd c)
@[simp ↓] theorem use_is_span {s : Span} : C_is_span [spanD s] Q = Q (.v 2 (.bl s.ok)) := by simp only [C_is_span, List.cons.injEq, and_true, spanD_inj]; simp
@[simp ↓] theorem use_pieces {ps : List Pc} : C_Layout_pieces [layD ps] Q = Q (.own (pcsD ps)) := by
  apply propext
  constructor
  · rintro ⟨ps', e, q⟩
    simp [pcsD_inj] at e
    rw [e]; exact q
  · exact fun q => ⟨ps, rfl, q⟩
end
end PR
/-! T2: the readings of cuts, scripts, spans (printed by mkt.py). -/
namespace PR
open PySem PySem.Spec PyProof.Rows L2 DL
abbrev N_parts_of : List Str := ["piece", "count", "whole", "first", "last", "word", "low", "high"]
abbrev P_parts_of : List Str := ["piece", "count"]
def t_parts_of : DTS := (dMatch (dVar 0) [⟨(.seq [(.val "top"), (.cap (some "whole"))]), [2], (dRet (dTup (aCons (dTup (aCons (dK (.str "top")) (aCons (dVar 1) aNil))) (aCons (dTup (aCons (dK (.str "top")) (aCons (dOp fSub (dVar 2) (dVar 1)) aNil))) aNil))))⟩, ⟨(.seq [(.val "old"), (.cap (some "first")), (.cap (some "last"))]), [3, 4], (dRet (dTup (aCons (dTup (aCons (dK (.str "old")) (aCons (dVar 3) (aCons (dOp fSub (dOp fAdd (dVar 3) (dVar 1)) (dK (.int 1))) aNil)))) (aCons (dTup (aCons (dK (.str "old")) (aCons (dOp fAdd (dVar 3) (dVar 1)) (aCons (dVar 4) aNil)))) aNil))))⟩, ⟨(.seq [(.cap (some "word")), (.cap (some "low")), (.cap (some "high")), (.cap (some "whole"))]), [5, 6, 7, 2], (dRet (dTup (aCons (dTup (aCons (dVar 5) (aCons (dVar 6) (aCons (dVar 7) (aCons (dVar 1) aNil))))) (aCons (dTup (aCons (dVar 5) (aCons (dVar 6) (aCons (dVar 7) (aCons (dOp fSub (dVar 2) (dVar 1)) aNil))))) aNil))))⟩])
abbrev N_cut : List Str := ["pieces", "at", "before", "after", "size", "head"]
abbrev P_cut : List Str := ["pieces", "at"]
def lb1_cut : DTS := (dSeq (dSet 4 (dCall C_size_of [] (aCons (dIxK 0 (dVar 3)) aNil))) (dIf (tvOr (tV (dIsN (dVar 4))) (tV (dOp fGt (dVar 4) (dVar 1)))) (dSeq (dAsg (dCall C_parts_of [] (aCons (dIxK 0 (dVar 3)) (aCons (dVar 1) aNil))) (gT 2 (gsCons (gN 5) (gsCons (gSub 3 (dK (.int 0))) gsNil)))) (dSeq (dApp 2 (dVar 5)) (dSet 1 (dK (.int 0))))) (dSeq (dAppPop 2 3) (dAug 1 iSub (dVar 4)))))
def t_cut : DTS := (dSeq (dPar 2 3 true true (dLst aNil) (dCB fList (aCons (dVar 0) aNil))) (dSeq (dWhile (tV (dOp fGt (dVar 1) (dK (.int 0)))) lb1_cut) (dFrz 2 (dFrz 3 (dRet (dTup (aCons (dVar 2) (aCons (dVar 3) aNil))))))))
abbrev N_inserted : List Str := ["pieces", "at", "count", "before", "after", "above"]
abbrev P_inserted : List Str := ["pieces", "at", "count"]
def t_inserted : DTS := (dSeq (dAsg (dCall C_cut [] (aCons (dVar 0) (aCons (dVar 1) aNil))) (gT 2 (gsCons (gN 3) (gsCons (gN 4) gsNil)))) (dSeq (dSet 5 (dIfE (tV (dOp fNe (dVar 3) (dLst aNil))) (dCall C_last_label [] (aCons (dIxL (dVar 3)) aNil)) (dK .non))) (dSeq (dIf (tV (dIsN (dVar 5))) (dRet (dCall C_normal [] (aCons (dLst (aStar (dVar 3) (aCons (dTup (aCons (dK (.str "top")) (aCons (dVar 2) aNil))) (aStar (dVar 4) aNil)))) aNil))) dNext) (dRet (dCall C_normal [] (aCons (dLst (aStar (dVar 3) (aCons (dTup (aCons (dK (.str "new")) (aCons (dIxK 0 (dVar 5)) (aCons (dIxK 1 (dCall C_first_label [] (aCons (dIxK 0 (dVar 4)) aNil))) (aCons (dVar 2) aNil))))) (aStar (dVar 4) aNil)))) aNil))))))
abbrev N_deleted : List Str := ["pieces", "first", "last"]
abbrev P_deleted : List Str := ["pieces", "first", "last"]
def t_deleted : DTS := (dRet (dCall C_normal [] (aCons (dOp fAdd (dIxK 0 (dCall C_cut [] (aCons (dVar 0) (aCons (dVar 1) aNil)))) (dIxK 1 (dCall C_cut [] (aCons (dVar 0) (aCons (dOp fAdd (dVar 2) (dK (.int 1))) aNil))))) aNil)))
abbrev N_changed : List Str := ["pieces", "command", "word", "one", "other"]
abbrev P_changed : List Str := ["pieces", "command"]
def t_changed : DTS := (dSeq (dAsg (dVar 1) (gT 3 (gsCons (gN 2) (gsCons (gN 3) (gsCons (gN 4) gsNil))))) (dRet (dIfE (tV (dOp fEq (dVar 2) (dK (.str "insert")))) (dCall C_inserted [] (aCons (dVar 0) (aCons (dVar 3) (aCons (dVar 4) aNil)))) (dCall C_deleted [] (aCons (dVar 0) (aCons (dVar 3) (aCons (dVar 4) aNil)))))))
abbrev N_is_command : List Str := ["command", "at", "count", "first", "last"]
abbrev P_is_command : List Str := ["command"]
def t_is_command : DTS := (dSeq (dMatch (dVar 0) [⟨(.seq [(.val "insert"), (.cap (some "at")), (.cap (some "count"))]), [1, 2], (dRet (vAnd (dOp fGe (dVar 1) (dK (.int 0))) (dOp fGe (dVar 2) (dK (.int 1)))))⟩, ⟨(.seq [(.val "delete"), (.cap (some "first")), (.cap (some "last"))]), [3, 4], (dRet (dChain pLe pLe (dK (.int 0)) (dVar 3) (dVar 4)))⟩]) (dRet (dK (.bl false))))
abbrev N_check_script : List Str := ["script", "at", "command"]
abbrev P_check_script : List Str := ["script"]
def lb1_check_script : DTS := (dIf (tvNot (tV (dCall C_is_command [] (aCons (dVar 2) aNil)))) dNever dNext)
def t_check_script : DTS := (dForE (aCons (dVar 0) aNil) (gT 2 (gsCons (gN 1) (gsCons (gN 2) gsNil))) lb1_check_script)
abbrev N_run : List Str := ["script", "start", "pieces", "command"]
abbrev P_run : List Str := ["script", "start"]
def lb1_run : DTS := (dSet 2 (dCall C_changed [] (aCons (dVar 2) (aCons (dVar 3) aNil))))
def t_run : DTS := (dSeq (dDrop (dCall C_check_script [] (aCons (dVar 0) aNil))) (dSeq (dSet 2 (dIfE (tV (dIsN (dVar 1))) (dCB fList (aCons (dK (.tup [.tup [.str "old", .int 0, .non]])) aNil)) (dMeth 0 C_Layout_pieces [] (dVar 1) aNil))) (dSeq (dFor (dVar 0) (gN 3) lb1_run) (dRet (dMake 0 C_Layout___init__ [] (aCons (dVar 2) aNil))))))
abbrev N_is_span : List Str := ["span"]
abbrev P_is_span : List Str := ["span"]
def t_is_span : DTS := (dRet (vAnd (dOp fGe (dIxK 0 (dVar 0)) (dK (.int 0))) (vOr (dIsN (dIxK 1 (dVar 0))) (dOp fLe (dIxK 0 (dVar 0)) (dIxK 1 (dVar 0))))))
abbrev N_check_span : List Str := ["span"]
abbrev P_check_span : List Str := ["span"]
def t_check_span : DTS := (dIf (tvNot (tV (dCall C_is_span [] (aCons (dVar 0) aNil)))) dNever dNext)
abbrev N_rows_below : List Str := ["pieces", "old", "total", "piece", "size", "ahead"]
abbrev P_rows_below : List Str := ["pieces", "old"]
def lb1_rows_below : DTS := (dSeq (dSet 4 (dCall C_size_of [] (aCons (dVar 3) aNil))) (dSeq (dIf (tV (dOp fNe (dIxK 0 (dVar 3)) (dK (.str "top")))) (dSeq (dSet 5 (dOp fSub (dVar 1) (dIxK 1 (dVar 3)))) (dSeq (dIf (tV (dOp fLe (dVar 5) (dK (.int 0)))) (dRet (dVar 2)) dNext) (dIf (tvAnd (tV (dOp fEq (dIxK 0 (dVar 3)) (dK (.str "old")))) (tvOr (tV (dIsN (dVar 4))) (tV (dOp fLt (dVar 5) (dVar 4))))) (dRet (dOp fAdd (dVar 2) (dVar 5))) dNext))) dNext) (dAug 2 iAdd (dVar 4))))
def t_rows_below : DTS := (dSeq (dSet 2 (dK (.int 0))) (dSeq (dFor (dVar 0) (gN 3) lb1_rows_below) (dRet (dVar 2))))
abbrev N_rows_within : List Str := ["pieces", "old", "total", "piece", "size", "ahead"]
abbrev P_rows_within : List Str := ["pieces", "old"]
def lb1_rows_within : DTS := (dSeq (dSet 4 (dCall C_size_of [] (aCons (dVar 3) aNil))) (dSeq (dIf (tV (dOp fNe (dIxK 0 (dVar 3)) (dK (.str "top")))) (dSeq (dSet 5 (dOp fAdd (dOp fSub (dVar 1) (dIxK 1 (dCall C_first_label [] (aCons (dVar 3) aNil)))) (dK (.int 1)))) (dSeq (dIf (tV (dOp fLe (dVar 5) (dK (.int 0)))) (dRet (dVar 2)) dNext) (dIf (tvAnd (tV (dOp fEq (dIxK 0 (dVar 3)) (dK (.str "old")))) (tvOr (tV (dIsN (dVar 4))) (tV (dOp fLt (dVar 5) (dVar 4))))) (dRet (dOp fAdd (dVar 2) (dVar 5))) dNext))) dNext) (dAug 2 iAdd (dVar 4))))
def t_rows_within : DTS := (dSeq (dSet 2 (dK (.int 0))) (dSeq (dFor (dVar 0) (gN 3) lb1_rows_within) (dRet (dVar 2))))
abbrev N_carried_in : List Str := ["pieces", "span", "first", "last"]
abbrev P_carried_in : List Str := ["pieces", "span"]
def t_carried_in : DTS := (dSeq (dSet 2 (dCall C_rows_below [] (aCons (dVar 0) (aCons (dIxK 0 (dVar 1)) aNil)))) (dSeq (dIf (tV (dIsN (dIxK 1 (dVar 1)))) (dRet (dTup (aCons (dVar 2) (aCons (dK .non) aNil)))) dNext) (dSeq (dSet 3 (dOp fSub (dCall C_rows_within [] (aCons (dVar 0) (aCons (dIxK 1 (dVar 1)) aNil))) (dK (.int 1)))) (dRet (dIfE (tV (dOp fLt (dVar 3) (dVar 2))) (dK .non) (dTup (aCons (dVar 2) (aCons (dVar 3) aNil))))))))
abbrev N_carried : List Str := ["layout", "span"]
abbrev P_carried : List Str := ["layout", "span"]
def t_carried : DTS := (dSeq (dDrop (dCall C_check_span [] (aCons (dVar 1) aNil))) (dRet (dCall C_carried_in [] (aCons (dMeth 0 C_Layout_pieces [] (dVar 0) aNil) (aCons (dVar 1) aNil)))))
end PR
/-! P2: what the readings do: cuts, scripts, spans. -/
namespace PR
open PySem PySem.Spec PyProof.Rows L2 DL
@[simp] theorem seqOf_imm (tu : Bool) (ds : List D) : (seqOf tu ds).imm = (tu && immAll ds) := by cases tu <;> rfl
@[simp] theorem upl_min {g : Nat} {ds : List D} (h : immAll ds = true) : upl (min g 2) ds = 2 := by
  have : min g 2 ≤ 2 := Nat.min_le_right _ _
  match e : min g 2, this with
  | 0, _ => simp [h]
  | 1, _ => simp [h]
  | 2, _ => rfl
theorem pure_is_command : Pure C_is_command t_is_command N_is_command := by
  rintro ds QD ⟨c, rfl, q⟩
  cases c with
  | cmd c => cases c with
    | ins i n => by_cases h : 0 ≤ i <;> simpa [t_is_command, Itm.d, Itm.ok, Cmd.d_ins, Cmd.ok, h] using q
    | del a b => by_cases h : 0 ≤ a <;> simpa [t_is_command, Itm.d, Itm.ok, Cmd.d_del, Cmd.ok, h] using q
  | odd o =>
    have q : QD (.v 2 (.bl false)) := q
    cases o with
    | any w a b h =>
      obtain ⟨h1, h2, h3, _⟩ := oddW_ok h
      have b2 : (w == ("insert" : Str)) = false := beq_false_of_ne h2
      have b3 : (w == ("delete" : Str)) = false := beq_false_of_ne h3
      simp [t_is_command, Itm.d, Odd.d, h1, b2, b3]
      exact q
    | _ => simp [t_is_command, Itm.d, Odd.d] <;> exact q
theorem enum_map {α : Type} (f : α → D) : ∀ (xs : List α) (i : Int) (k : Nat) (d : D), (enumL i (xs.map f))[k]? = some d → ∃ x, xs[k]? = some x ∧ d = .tup [.int (i + k), f x]
  | [], i, k, d, e => by simp at e
  | x :: xs, i, 0, d, e => by simp at e; exact ⟨x, rfl, by rw [← e]; simp⟩
  | x :: xs, i, k + 1, d, e => by
    simp at e
    obtain ⟨y, h1, h2⟩ := enum_map f xs (i + 1) k d e
    exact ⟨y, by simpa using h1, by rw [h2]; congr 3; omega⟩
end PR
/-! M6: scripts that may be refused: promises. -/
namespace PR
open PySem PySem.Spec PyProof.Rows L2 DL
def itsD (its : List Itm) : List D := its.map Itm.d
/-- where check_script refuses -/
def badIt : Nat → List Itm → Option Nat
  | _, [] => none
  | n, it :: its => if it.ok then badIt (n + 1) its else some n
theorem badIt_none : ∀ (its : List Itm) (n : Nat), badIt n its = none → ∃ cs : List Cmd, its = cs.map Itm.cmd ∧ ∀ c ∈ cs, c.ok = true
  | [], n, _ => ⟨[], rfl, by simp⟩
  | it :: its, n, h => by
    unfold badIt at h
    cases ho : it.ok with
    | false => rw [ho] at h; simp at h
    | true =>
      rw [ho, if_pos rfl] at h
      obtain ⟨cs, rfl, h2⟩ := badIt_none its (n + 1) h
      cases it with
      | odd o => cases ho
      | cmd c =>
        refine ⟨c :: cs, rfl, fun x hx => ?_⟩
        rcases List.mem_cons.mp hx with rfl | hx
        · exact ho
        · exact h2 x hx
theorem badIt_ok : ∀ (cs : List Cmd) (n : Nat), (∀ c ∈ cs, c.ok = true) → badIt n (cs.map Itm.cmd) = none
  | [], _, _ => rfl
  | c :: cs, n, h => by
    show (if (Itm.cmd c).ok then badIt (n + 1) (cs.map Itm.cmd) else some n) = none
    have : (Itm.cmd c).ok = true := h c (by simp)
    rw [this, if_pos rfl]
    exact badIt_ok cs _ fun x hx => h x (by simp [hx])
theorem cmd_inj : ∀ {cs ds : List Cmd}, cs.map Itm.cmd = ds.map Itm.cmd → cs = ds
  | [], [], _ => rfl
  | [], d :: ds, h => by cases h
  | c :: cs, [], h => by cases h
  | c :: cs, d :: ds, h => by
    injection h with h1 h2
    injection h1 with h1
    rw [h1, cmd_inj h2]
theorem itsD_cmds (cs : List Cmd) : itsD (cs.map Itm.cmd) = cmdsD cs := by simp [itsD, cmdsD, Itm.d]
@[simp] theorem imm_its (cs : List Itm) : immAll (itsD cs) = true := by
  induction cs with
  | nil => rfl
  | cons p ps ih => simpa [itsD] using ih
@[simp] theorem itsD_len (its : List Itm) : (itsD its).length = its.length := by simp [itsD]
abbrev eBadCommand (k : Int) : Er := mkEr "BadCommand" ["at"] [.int k]
theorem ok_badcommand (k : Int) : okEr (eBadCommand k) := okEr_1 rfl
def X_check_script : CtrX := fun ds Q R => ∃ (its : List Itm) (tu : Bool), ds = [seqOf tu (itsD its)] ∧ (badIt 0 its = none → Q (.v 2 .non)) ∧ (∀ k : Nat, badIt 0 its = some k → R (eBadCommand k))
def stOk (st : Option (List Pc)) : Prop := ∀ ps, st = some ps → Whole ps ∧ nrm ps ∧ ps.length ≤ 60
def X_run : CtrX := fun ds Q R => ∃ (its : List Itm) (tu : Bool) (st : Option (List Pc)), ds = [seqOf tu (itsD its), stD st] ∧ stOk st ∧ its.length ≤ 420 ∧ (∀ k : Nat, badIt 0 its = some k → R (eBadCommand k)) ∧
  (∀ cs : List Cmd, its = cs.map Itm.cmd → (∀ c ∈ cs, c.ok = true) → (runF (st.getD PLAIN) cs).length ≤ 60 → Q (.v 2 (layD (runF (st.getD PLAIN) cs)))) ∧
  (∀ cs : List Cmd, its = cs.map Itm.cmd → (∀ c ∈ cs, c.ok = true) → 60 < (runF (st.getD PLAIN) cs).length → R eTooMany)
end PR
/-! QTs: texts of scripts: what is written, what is read. -/
namespace PR
open PySem PySem.Spec PyProof.Rows L2 DL TL
/-! ### parts of a text -/
theorem spl_parts (S : List Nat) : ∀ (l : List Nat) (k : Nat) (acc : List Nat), (spl S k acc l).length ≤ l.length + 1 ∧ (spl S k acc l) ≠ [] ∧ ∀ p ∈ spl S k acc l, p.length ≤ acc.length + l.length ∧ ∀ c ∈ p, c ∈ acc ∨ c ∈ l
  | [], k, acc => by
    rw [spl_nil]
    exact ⟨by simp, by simp, fun p hp => by rw [List.mem_singleton.mp hp]; exact ⟨by simp, fun c hc => .inl hc⟩⟩
  | c :: r, 0, acc => by
    by_cases h : pre S (c :: r) = true
    · rw [spl_hit h]
      obtain ⟨i1, i2, i3⟩ := spl_parts S r (S.length - 1) []
      refine ⟨by simp only [List.length_cons]; omega, by simp, fun p hp => ?_⟩
      rcases List.mem_cons.mp hp with rfl | hp
      · exact ⟨by omega, fun c hc => .inl hc⟩
      · obtain ⟨j1, j2⟩ := i3 p hp
        refine ⟨by simp only [List.length_nil, List.length_cons] at j1 ⊢; omega, fun d hd => ?_⟩
        rcases j2 d hd with hd | hd
        · cases hd
        · exact .inr (List.mem_cons_of_mem _ hd)
    · rw [spl_miss (by simpa using h)]
      obtain ⟨i1, i2, i3⟩ := spl_parts S r 0 (acc ++ [c])
      refine ⟨by simp only [List.length_cons]; omega, i2, fun p hp => ?_⟩
      obtain ⟨j1, j2⟩ := i3 p hp
      refine ⟨by simp only [List.length_append, List.length_cons, List.length_nil] at j1 ⊢; omega, fun d hd => ?_⟩
      rcases j2 d hd with hd | hd
      · rcases List.mem_append.mp hd with hd | hd
        · exact .inl hd
        · rw [List.mem_singleton.mp hd]
          exact .inr List.mem_cons_self
      · exact .inr (List.mem_cons_of_mem _ hd)
  | c :: r, k + 1, acc => by
    show (spl S k acc r).length ≤ _ ∧ spl S k acc r ≠ [] ∧ ∀ p ∈ spl S k acc r, _
    obtain ⟨i1, i2, i3⟩ := spl_parts S r k acc
    refine ⟨by simp only [List.length_cons]; omega, i2, fun p hp => ?_⟩
    obtain ⟨j1, j2⟩ := i3 p hp
    refine ⟨by simp only [List.length_cons]; omega, fun d hd => ?_⟩
    rcases j2 d hd with hd | hd
    · exact .inl hd
    · exact .inr (List.mem_cons_of_mem _ hd)
theorem strOk_tl {x : Str} : PyData.strOk x = true ↔ ∀ c ∈ TL.tl x, c < 1114112 := by
  unfold PyData.strOk
  rw [← Array.all_toList, List.all_eq_true]
  simp
theorem split_parts {x y : Str} {s : Nat} {S : List Nat} (ey : tl y = s :: S) (hk : y.cps.all (· < 256) = true) (hx : PyData.strOk x = true) :
    (Txt.split x y).length ≤ x.length + 1 ∧ Txt.split x y ≠ [] ∧ ∀ p ∈ Txt.split x y, PyData.strOk p = true ∧ p.length ≤ x.length := by
  have e := split_spl x y (by rw [ey]; simp) (kind_ok hk)
  obtain ⟨h1, h2, h3⟩ := spl_parts (tl y) (tl x) 0 []
  rw [← e, List.length_map] at h1
  refine ⟨by rw [len_tl]; exact h1, fun z => by rw [← e, z] at h2; exact h2 rfl, fun p hp => ?_⟩
  have hm : tl p ∈ spl (tl y) 0 [] (tl x) := by rw [← e]; exact List.mem_map_of_mem hp
  obtain ⟨j1, j2⟩ := h3 _ hm
  refine ⟨strOk_tl.mpr fun c hc => ?_, by rw [len_tl, len_tl]; simpa using j1⟩
  rcases j2 c hc with hc | hc
  · cases hc
  · exact strOk_tl.mp hx c hc
theorem tl_nl : tl ("\n" : Str) = [10] := by decide +kernel
theorem k_sp : (" " : Str).cps.all (· < 256) = true := by decide +kernel
theorem k_nl : ("\n" : Str).cps.all (· < 256) = true := by decide +kernel
/-! ### what a line tells -/
def cmdOf (w : Str) (a b : Int) : Option Cmd := if w = ("insert" : Str) then (if (Cmd.ins a b).ok = true then some (.ins a b) else none) else if w = ("delete" : Str) then (if (Cmd.del a b).ok = true then some (.del a b) else none) else none
def lineF (l : Str) : Option Cmd := match Txt.split l (" " : Str) with
  | [w, x, y] => match numF x, numF y with
    | some a, some b => cmdOf w a b
    | _, _ => none
  | _ => none
def cmdD (o : Option Cmd) : D := match o with
  | some c => c.d
  | none => .non
theorem itm_of {w : Str} (hw : PyData.strOk w = true) (a b : Int) : ∃ it : Itm, it.d = .tup [.str w, .int a, .int b] ∧ it.ok = (cmdOf w a b).isSome ∧ ∀ c, cmdOf w a b = some c → c.d = .tup [.str w, .int a, .int b] ∧ c.ok = true := by
  have n1 : ("delete" : Str) ≠ ("insert" : Str) := by decide +kernel
  unfold cmdOf
  by_cases h1 : w = ("insert" : Str)
  · subst h1
    refine ⟨.cmd (.ins a b), rfl, ?_, fun c hc => ?_⟩
    · rw [if_pos rfl]
      cases h : (Cmd.ins a b).ok <;> simp [Itm.ok, h]
    · rw [if_pos rfl] at hc
      split at hc
      · cases hc
        exact ⟨rfl, by assumption⟩
      · cases hc
  · by_cases h2 : w = ("delete" : Str)
    · subst h2
      refine ⟨.cmd (.del a b), rfl, ?_, fun c hc => ?_⟩
      · rw [if_neg h1, if_pos rfl]
        cases h : (Cmd.del a b).ok <;> simp [Itm.ok, h]
      · rw [if_neg h1, if_pos rfl] at hc
        split at hc
        · cases hc
          exact ⟨rfl, by assumption⟩
        · cases hc
    · rw [if_neg h1, if_neg h2]
      have no : ∀ c : Cmd, (none : Option Cmd) = some c → c.d = .tup [.str w, .int a, .int b] ∧ c.ok = true := fun c z => by cases z
      by_cases h3 : w = "move" ∧ a = 1 ∧ b = 2
      · obtain ⟨rfl, rfl, rfl⟩ := h3
        exact ⟨.odd .move, rfl, rfl, no⟩
      · by_cases h4 : w = "Insert" ∧ a = 1 ∧ b = 1
        · obtain ⟨rfl, rfl, rfl⟩ := h4
          exact ⟨.odd .Ins, rfl, rfl, no⟩
        · by_cases h5 : w = "" ∧ a = 1 ∧ b = 1
          · obtain ⟨rfl, rfl, rfl⟩ := h5
            exact ⟨.odd .empty, rfl, rfl, no⟩
          · refine ⟨.odd (.any w a b ?_), rfl, rfl, no⟩
            unfold oddW
            simp only [hw, Bool.true_and, Bool.and_eq_true, decide_eq_true_eq]
            exact ⟨⟨⟨⟨h1, h2⟩, h3⟩, h4⟩, h5⟩
/-! ### what a text tells -/
def goF : Nat → List Str → List Cmd → List Cmd ⊕ Nat
  | n, [], _ => .inr n
  | n, [l], acc => if l = ("" : Str) then .inl acc else .inr n
  | n, l :: m :: ls, acc => match lineF l with
    | none => .inr n
    | some c => goF (n + 1) (m :: ls) (acc ++ [c])
def parseF (t : Str) : List Cmd ⊕ Nat := goF 0 (Txt.split t ("\n" : Str)) []
theorem goF_one (last : Str) (n : Nat) (acc : List Cmd) : goF n [last] acc = if last = ("" : Str) then .inl acc else .inr n := rfl
theorem goF_cons (l : Str) (ls : List Str) (last : Str) (n : Nat) (acc : List Cmd) : goF n (l :: (ls ++ [last])) acc = match lineF l with
  | none => .inr n
  | some c => goF (n + 1) (ls ++ [last]) (acc ++ [c]) := by
  cases ls <;> rfl
/-! ### what is written -/
def lineT : Cmd → Str
  | .ins a b => ("insert" : Str) ++ (" " : Str) ++ numS a ++ (" " : Str) ++ numS b
  | .del a b => ("delete" : Str) ++ (" " : Str) ++ numS a ++ (" " : Str) ++ numS b
def SmC : Cmd → Prop
  | .ins a b => Sm a ∧ Sm b
  | .del a b => Sm a ∧ Sm b
def scrT (cs : List Cmd) : Str := Txt.join ("" : Str) (cs.map fun c => lineT c ++ ("\n" : Str))
theorem joinL_nil : ∀ l : List (List Nat), joinL [] l = l.flatten
  | [] => rfl
  | [p] => by simp [joinL]
  | p :: q :: r => by
    have := joinL_nil (q :: r)
    simp only [joinL, List.nil_append, this, List.flatten_cons]
theorem tl_scr (cs : List Cmd) : tl (scrT cs) = (cs.map fun c => tl (lineT c) ++ [10]).flatten := by
  have e : tl ("" : Str) = [] := by decide +kernel
  unfold scrT
  rw [join_eq, tl_join, e, joinL_nil, List.map_map]
  congr 1
  refine List.map_congr_left fun c _ => ?_
  show tl (lineT c ++ ("\n" : Str)) = _
  rw [tl_append, tl_nl]
theorem scrT_nil : scrT [] = ("" : Str) := by decide +kernel
theorem scrT_snoc (cs : List Cmd) (c : Cmd) : scrT (cs ++ [c]) = scrT cs ++ lineT c ++ ("\n" : Str) := by
  refine ext_tl ?_
  rw [tl_scr, tl_append, tl_append, tl_scr, tl_nl]
  simp
theorem joinL_lines : ∀ ps : List (List Nat), joinL [10] (ps ++ [[]]) = (ps.map fun p => p ++ [10]).flatten
  | [] => rfl
  | [p] => by simp [joinL]
  | p :: q :: r => by
    have := joinL_lines (q :: r)
    simp only [List.cons_append, joinL] at this ⊢
    rw [this]
    simp
end PR
/-! P2b: counted rows, carried spans. -/
namespace PR
open PySem PySem.Spec PyProof.Rows L2 DL
end PR
/-! Q8: the law's lists of rows behind commands, in plain Lean. -/
namespace PR
/-- a list holds what a function tells of its first numbers -/
def Held {β : Type} (rows : List β) (F : Int → β) : Prop := ∀ k : Nat, k < rows.length → rows[k]? = some (F k)
def putIn {β : Type} (rows : List β) (i n : Int) (m : β) : List β := rows.take i.toNat ++ List.replicate n.toNat m ++ rows.drop i.toNat
def cutOut {β : Type} (rows : List β) (a b : Int) : List β := rows.take a.toNat ++ rows.drop (b + 1).toNat
theorem putIn_len {β : Type} {rows : List β} {i n : Int} {m : β} (h : i ≤ rows.length) (hi : 0 ≤ i) (hn : 0 ≤ n) : ((putIn rows i n m).length : Int) = rows.length + n := by
  simp [putIn]
  omega
theorem cutOut_len {β : Type} {rows : List β} {a b : Int} (ha : 0 ≤ a) (hb : a ≤ b) (h : b < rows.length) : ((cutOut rows a b).length : Int) = rows.length - (b - a + 1) := by
  simp [cutOut]
  omega
theorem Held.put {β : Type} {rows : List β} {F : Int → β} (h : Held rows F) {i n : Int} {m : β} (hi : 0 ≤ i) (hl : i ≤ rows.length) (hn : 0 ≤ n) : Held (putIn rows i n m) fun r => if r < i then F r else if r < i + n then m else F (r - n) := by
  intro k hk
  show _ = some (if (k : Int) < i then F k else if (k : Int) < i + n then m else F (k - n))
  have hlen := putIn_len (m := m) hl hi hn
  unfold putIn
  rw [List.append_assoc]
  by_cases c1 : (k : Int) < i
  · rw [List.getElem?_append_left (by simp; omega), List.getElem?_take, if_pos (by omega), h k (by omega), if_pos c1]
  · rw [List.getElem?_append_right (by simp; omega), if_neg c1]
    by_cases c2 : (k : Int) < i + n
    · rw [List.getElem?_append_left (by simp; omega), if_pos c2, List.getElem?_replicate, if_pos (by simp; omega)]
    · rw [List.getElem?_append_right (by simp; omega), if_neg c2, List.getElem?_drop]
      have e : i.toNat + (k - (rows.take i.toNat).length - (List.replicate n.toNat m).length) = k - n.toNat := by simp; omega
      rw [e, h _ (by omega)]
      congr 2
      omega
theorem Held.cut {β : Type} {rows : List β} {F : Int → β} (h : Held rows F) {a b : Int} (ha : 0 ≤ a) (hb : a ≤ b) (hl : b < rows.length) : Held (cutOut rows a b) fun r => if r < a then F r else F (r + (b - a + 1)) := by
  intro k hk
  show _ = some (if (k : Int) < a then F k else F (k + (b - a + 1)))
  have hlen := cutOut_len (rows := rows) ha hb hl
  unfold cutOut
  by_cases c1 : (k : Int) < a
  · rw [List.getElem?_append_left (by simp; omega), List.getElem?_take, if_pos (by omega), h k (by omega), if_pos c1]
  · rw [List.getElem?_append_right (by simp; omega), if_neg c1, List.getElem?_drop]
    have e : (b + 1).toNat + (k - (rows.take a.toNat).length) = k + (b - a + 1).toNat := by simp; omega
    rw [e, h _ (by omega)]
    congr 2
    omega
/-- from row l - 1 on the rows are old ones, row l is v -/
def TailAt (f : Rf) (l : Nat) (v : Int) : Prop := 1 ≤ l ∧ ∀ i : Int, (l : Int) - 1 ≤ i → f i = some (v + (i - l), v + (i - l))
/-- a command near the first of l rows -/
def Cmd.near (l : Nat) : Cmd → Prop
  | .ins i n => 0 ≤ i ∧ 1 ≤ n ∧ i < l
  | .del a b => 0 ≤ a ∧ a ≤ b ∧ b + 1 < l
def Cmd.len (l : Nat) : Cmd → Nat
  | .ins _ n => l + n.toNat
  | .del a b => l - (b - a + 1).toNat
theorem TailAt.cmd {f : Rf} {l : Nat} {v : Int} (h : TailAt f l v) {c : Cmd} (hc : c.near l) : TailAt (cmdL f c) (c.len l) v := by
  obtain ⟨h0, h1⟩ := h
  cases c with
  | ins i n =>
    obtain ⟨c1, c2, c3⟩ := hc
    refine ⟨by simp [Cmd.len]; omega, fun r hr => ?_⟩
    simp [Cmd.len] at hr
    show insL f i n r = _
    unfold insL
    rw [if_neg (by omega), if_neg (by omega), h1 _ (by omega)]
    simp [Cmd.len]
    omega
  | del a b =>
    obtain ⟨c1, c2, c3⟩ := hc
    refine ⟨by simp [Cmd.len]; omega, fun r hr => ?_⟩
    simp [Cmd.len] at hr
    show delL f a b r = _
    unfold delL
    rw [if_neg (by omega), h1 _ (by omega)]
    simp [Cmd.len]
    omega
/-! ### truth row by row -/
def bothB (rows : List Bool) (i : Int) : Bool := decide (0 < i) && ((rows[(i - 1).toNat]?).getD false && (rows[i.toNat]?).getD false)
def stepB (rows : List Bool) : Cmd → List Bool
  | .ins i n => putIn rows i n (bothB rows i)
  | .del a b => cutOut rows a b
/-! ### labels row by row -/
def midR (rows : List (Option Lab)) (i : Int) : Option Lab := if i = 0 then none else midL ((rows[(i - 1).toNat]?).getD none) ((rows[i.toNat]?).getD none)
def stepR (rows : List (Option Lab)) : Cmd → List (Option Lab)
  | .ins i n => putIn rows i n (midR rows i)
  | .del a b => cutOut rows a b
/-! ### whole scripts -/
/-- each command is near the first rows at its time -/
def nearAll : Nat → List Cmd → Prop
  | _, [] => True
  | l, c :: cs => c.near l ∧ nearAll (c.len l) cs
def lenAll (l : Nat) (cs : List Cmd) : Nat := cs.foldl (fun l c => c.len l) l
def plainf : Rf := fun r => some (r, r)
/-! ### the span that is found -/
def insideL (rows : List Bool) : List Int := ((List.range rows.length).filter fun k => (rows[k]?).getD false).map fun (k : Nat) => (k : Int)
def spanOf (rows : List Bool) : Option Span := match (insideL rows).head?, (insideL rows).getLast? with
  | some x, some y => some (x, some y)
  | _, _ => none
end PR
/-! Q9: the rows of a layout that is rolled from rows; spans over listed rows. -/
namespace PR
structure Rolled (found : List Pc) (rows : List (Option Lab)) : Prop where
  cl : allC found
  tt : tot found = rows.length
  at_ : Held rows (lab found)
theorem Rolled.add {found : List Pc} {rows : List (Option Lab)} {x : Option Lab} {p : Pc} (h : Rolled found rows) (hv : p.valid = true) (ho : p.isOpen = false) (hs : p.size = some 1) (h0 : p.at_ 0 = x) : Rolled (found ++ [p]) (rows ++ [x]) := by
  refine ⟨allC_app.mpr ⟨h.cl, fun q hq => by rw [List.mem_singleton.mp hq]; exact ⟨hv, ho⟩⟩, ?_, fun k hk => ?_⟩
  · rw [tot_app, h.tt]
    simp [tot, hs]
  · rw [lab_app h.cl (by omega), h.tt]
    by_cases e : k < rows.length
    · rw [if_pos (by omega), List.getElem?_append_left e]
      exact h.at_ k e
    · have e2 : k = rows.length := by simp at hk; omega
      subst e2
      rw [if_neg (by omega)]
      simp [lab, hs, h0]
theorem Rolled.grow {init : List Pc} {rows : List (Option Lab)} {x : Option Lab} {q p : Pc} {s : Int} (h : Rolled (init ++ [q]) rows) (hv : p.valid = true) (ho : p.isOpen = false) (hq : q.size = some s) (hs : p.size = some (s + 1)) (ha : ∀ r, r < s → p.at_ r = q.at_ r) (h0 : p.at_ s = x) : Rolled (init ++ [p]) (rows ++ [x]) := by
  obtain ⟨c1, c2⟩ := allC_app.mp h.cl
  have ht := h.tt
  rw [tot_app] at ht
  simp [tot, hq] at ht
  refine ⟨allC_app.mpr ⟨c1, fun z hz => by rw [List.mem_singleton.mp hz]; exact ⟨hv, ho⟩⟩, ?_, fun k hk => ?_⟩
  · rw [tot_app]
    simp [tot, hs]
    omega
  · rw [lab_app c1 (by omega)]
    by_cases e : k < rows.length
    · have := h.at_ k e
      rw [lab_app c1 (by omega)] at this
      rw [List.getElem?_append_left e, this]
      by_cases e2 : (k : Int) < tot init
      · rw [if_pos e2, if_pos e2]
      · rw [if_neg e2, if_neg e2]
        have l1 : (k : Int) - tot init < s := by omega
        have l2 : (k : Int) - tot init < s + 1 := by omega
        simp only [lab, hq, hs]
        rw [if_pos l1, if_pos l2, ha _ l1]
    · have e2 : k = rows.length := by simp at hk; omega
      subst e2
      rw [if_neg (by have := tot_nonneg c1; have := size_pos (c2 q (by simp)).1 hq; omega)]
      have l2 : (rows.length : Int) - tot init = s := by omega
      rw [l2]
      simp [lab, hs, h0]
      omega
theorem Rolled.step {found : List Pc} {rows : List (Option Lab)} {x : Option Lab} (h : Rolled found rows) (hx : ∀ l, x = some l → labOk l) : Rolled (rollF found x) (rows ++ [x]) := by
  rcases snoc_cases found with rfl | ⟨init, q, rfl⟩
  · cases x with
    | none => exact h.add (p := .top 1) rfl rfl rfl rfl
    | some x =>
      obtain ⟨l, r⟩ := x
      have hl := hx _ rfl
      by_cases e : l = r
      · subst e
        have := h.add (p := .old l (some l)) (x := some (l, l)) (by simp [Pc.valid]; exact hl.1) rfl (by simp [Pc.size]) (by simp [Pc.at_])
        simpa [rollF] using this
      · have := h.add (p := .new l r 1) (x := some (l, r)) (by simp [Pc.valid]; have := hl.2; have := hl.1; simp at *; omega) rfl rfl rfl
        simpa [rollF, e] using this
  · have ho : q.isOpen = false := (allC_app.mp h.cl).2 q (by simp) |>.2
    have hvq : q.valid = true := (allC_app.mp h.cl).2 q (by simp) |>.1
    cases x with
    | none =>
      cases q with
      | top n =>
        have := h.grow (p := .top (n + 1)) (x := none) (s := n) (by simp [Pc.valid] at *; omega) rfl rfl rfl (fun _ _ => rfl) rfl
        simpa [rollF] using this
      | old a b =>
        have := h.add (p := .top 1) (x := none) rfl rfl rfl rfl
        simpa [rollF] using this
      | new a b n =>
        have := h.add (p := .top 1) (x := none) rfl rfl rfl rfl
        simpa [rollF] using this
    | some x =>
      obtain ⟨l, r⟩ := x
      have hl := hx _ rfl
      by_cases e : l = r
      · subst e
        have hadd := h.add (p := .old l (some l)) (x := some (l, l)) (by simp [Pc.valid]; exact hl.1) rfl (by simp [Pc.size]) (by simp [Pc.at_])
        cases q with
        | top n => simpa [rollF] using hadd
        | new a b n => simpa [rollF] using hadd
        | old a b => cases b with
          | none => cases ho
          | some b =>
            by_cases e2 : b + 1 = l
            · have := h.grow (p := .old a (some l)) (x := some (l, l)) (s := b - a + 1) (by simp [Pc.valid] at *; omega) rfl rfl (by simp [Pc.size]; omega) (fun _ _ => rfl) (by simp [Pc.at_]; omega)
              simpa [rollF, e2] using this
            · simpa [rollF, e2] using hadd
      · have hadd := h.add (p := .new l r 1) (x := some (l, r)) (by simp [Pc.valid]; have := hl.2; have := hl.1; simp at *; omega) rfl rfl rfl
        cases q with
        | top n => simpa [rollF, e] using hadd
        | old a b => simpa [rollF, e] using hadd
        | new l' h' n =>
          by_cases e2 : l' = l ∧ h' = r
          · obtain ⟨rfl, rfl⟩ := e2
            have := h.grow (p := .new l' h' (n + 1)) (x := some (l', h')) (s := n) (by simp [Pc.valid] at *; omega) rfl rfl rfl (fun _ _ => rfl) rfl
            simpa [rollF, e] using this
          · simpa [rollF, e, e2] using hadd
theorem Rolled.fold : ∀ (xs : List (Option Lab)) (found : List Pc) (rows : List (Option Lab)), Rolled found rows → (∀ x ∈ xs, ∀ l, x = some l → labOk l) → Rolled (xs.foldl rollF found) (rows ++ xs)
  | [], found, rows, h, _ => by simpa using h
  | x :: xs, found, rows, h, hx => by
    have := Rolled.fold xs _ _ (h.step (hx x (by simp))) fun y hy => hx y (by simp [hy])
    simpa using this
end PR
/-! Q10: rolled rows in general: listed rows that stand in order. -/
namespace PR
/-- listed rows: top rows, then labels in order; the last one is an old row v -/
structure GRows (rows : List (Option Lab)) (v : Int) : Prop where
  pw : rows.Pairwise ole
  ok : ∀ x ∈ rows, ∀ l, x = some l → labOk l
  lst : rows.getLast? = some (some (v, v))
theorem rollF_nrm {found : List Pc} {x : Option Lab} (hc : allC found) (h : nrm found) (hx : ∀ l, x = some l → labOk l) : nrm (rollF found x) := by
  rcases snoc_cases found with rfl | ⟨init, q, rfl⟩
  · cases x with
    | none => trivial
    | some x =>
      obtain ⟨l, r⟩ := x
      by_cases e : l = r <;> simp [rollF, e, nrm]
  · have ho : q.isOpen = false := (allC_app.mp hc).2 q (by simp) |>.2
    cases x with
    | none =>
      cases q with
      | top n => simpa [rollF] using nrm_last (b := .top (n + 1)) (by trivial) h
      | old a b =>
        have : nrm (init ++ [.old a b] ++ [.top 1]) := nrm_snoc.mpr ⟨h, by cases b <;> rfl⟩
        simpa [rollF] using this
      | new a b n =>
        have : nrm (init ++ [.new a b n] ++ [.top 1]) := nrm_snoc.mpr ⟨h, rfl⟩
        simpa [rollF] using this
    | some x =>
      obtain ⟨l, r⟩ := x
      by_cases e : l = r
      · subst e
        cases q with
        | top n =>
          have : nrm (init ++ [.top n] ++ [.old l (some l)]) := nrm_snoc.mpr ⟨h, rfl⟩
          simpa [rollF] using this
        | new a b n =>
          have : nrm (init ++ [.new a b n] ++ [.old l (some l)]) := nrm_snoc.mpr ⟨h, rfl⟩
          simpa [rollF] using this
        | old a b => cases b with
          | none => cases ho
          | some b =>
            by_cases e2 : b + 1 = l
            · have : nrm (init ++ [.old a (some l)]) := nrm_last (q := .old a (some b)) (by simp [sameH]) h
              simpa [rollF, e2] using this
            · have : nrm (init ++ [.old a (some b)] ++ [.old l (some l)]) := nrm_snoc.mpr ⟨h, by simp [weld, e2]⟩
              simpa [rollF, e2] using this
      · cases q with
        | top n =>
          have : nrm (init ++ [.top n] ++ [.new l r 1]) := nrm_snoc.mpr ⟨h, rfl⟩
          simpa [rollF, e] using this
        | old a b =>
          have : nrm (init ++ [.old a b] ++ [.new l r 1]) := nrm_snoc.mpr ⟨h, by cases b <;> rfl⟩
          simpa [rollF, e] using this
        | new l' h' n =>
          by_cases e2 : l' = l ∧ h' = r
          · obtain ⟨rfl, rfl⟩ := e2
            have : nrm (init ++ [.new l' h' (n + 1)]) := nrm_last (q := .new l' h' n) (by simp [sameH]) h
            simpa [rollF, e] using this
          · have : nrm (init ++ [.new l' h' n] ++ [.new l r 1]) := nrm_snoc.mpr ⟨h, by simp [weld]; intro a b; exact e2 ⟨a, b⟩⟩
            simpa [rollF, e, e2] using this
theorem rolled_nrm : ∀ (xs : List (Option Lab)) (found : List Pc) (rows : List (Option Lab)), Rolled found rows → nrm found → (∀ x ∈ xs, ∀ l, x = some l → labOk l) → nrm (xs.foldl rollF found)
  | [], found, rows, h, hn, _ => by simpa using hn
  | x :: xs, found, rows, h, hn, hx => by
    have := rolled_nrm xs _ _ (h.step (hx x (by simp))) (rollF_nrm h.cl hn (hx x (by simp))) fun y hy => hx y (by simp [hy])
    simpa using this
/-- all about the layout of listed rows -/
structure Lays (rows : List (Option Lab)) (ps : List Pc) (v : Int) : Prop where
  wh : Whole ps
  nr : nrm ps
  lst : rows.getLast? = some (some (v, v))
  held : Held rows (lab ps)
  tl : TailAt (lab ps) rows.length (v + 1)
theorem GRows.lays {rows : List (Option Lab)} {v : Int} (h : GRows rows v) : Lays rows (roll rows) v ∧ (roll rows).length ≤ rows.length := by
  have R := Rolled.fold rows [] [] ⟨by simp [allC], rfl, fun k hk => by simp at hk⟩ h.ok
  have N := rolled_nrm rows [] [] ⟨by simp [allC], rfl, fun k hk => by simp at hk⟩ trivial h.ok
  rw [List.nil_append] at R
  obtain ⟨init, a, b, e, ln⟩ := fold_last rows [] v h.lst
  rw [e] at R N
  obtain ⟨c1, c2⟩ := allC_app.mp R.cl
  have tt := R.tt
  rw [tot_app] at tt
  simp [tot, Pc.size] at tt
  have er : roll rows = init ++ [.old a none] := by simp [roll, rollE, e]
  have hvo : labOk (v, v) := h.ok _ (List.mem_of_getLast? h.lst) _ rfl
  have tn := tot_nonneg c1
  have hvb : (Pc.old a (some b)).valid = true := (c2 _ (by simp)).1
  simp [Pc.valid] at hvb
  have hne : 1 ≤ rows.length := by omega
  have last := R.at_ (rows.length - 1) (by omega)
  rw [← List.getLast?_eq_getElem?, h.lst, lab_app c1 (by omega), if_neg (by omega)] at last
  simp [lab, Pc.size, Pc.at_] at last
  have hvb2 : v = b := by omega
  have lay : Lay (init ++ [.old a none]) := ⟨init, a, rfl, c1, hvb.1⟩
  have held : Held rows (lab (roll rows)) := fun k hk => by
    rw [R.at_ k hk, er, lab_app c1 (by omega), lab_app c1 (by omega)]
    by_cases e2 : (k : Int) < tot init
    · rw [if_pos e2, if_pos e2]
    · rw [if_neg e2, if_neg e2]
      have e3 : (k : Int) - tot init < b - a + 1 := by omega
      simp [lab, Pc.size, Pc.at_, e3]
  have tl : TailAt (lab (roll rows)) rows.length (v + 1) := ⟨hne, fun i hi => by
    rw [er, lab_app c1 (by omega), if_neg (by omega)]
    simp [lab, Pc.size, Pc.at_]
    omega⟩
  have step : ∀ i, 0 ≤ i → ole (lab (roll rows) i) (lab (roll rows) (i + 1)) := fun i hi => by
    by_cases e1 : i + 1 < rows.length
    · obtain ⟨k, rfl⟩ : ∃ k : Nat, i = k := ⟨i.toNat, by omega⟩
      have h1 := held k (by omega)
      have h2 := held (k + 1) (by omega)
      have := (List.pairwise_iff_getElem.mp h.pw) k (k + 1) (by omega) (by omega) (by omega)
      rw [List.getElem?_eq_getElem (by omega)] at h1 h2
      injection h1 with h1
      injection h2 with h2
      rw [h1, h2] at this
      exact this
    · rw [tl.2 i (by omega), tl.2 (i + 1) (by omega)]
      simp [ole, lle]
      omega
  refine ⟨⟨?_, ?_, h.lst, held, tl⟩, ?_⟩
  · rw [er] at step held tl ⊢
    exact whole_of (ok_of _ none lay step fun q e => by cases e)
  · rw [er]
    exact nrm_last (q := .old a (some b)) (by simp [sameH]) N
  · rw [er]
    rw [e] at ln
    simpa using ln
end PR
/-! Q11: what becomes of any span, by listed rows. -/
namespace PR
def fromL (a : Int) : Option Lab → Bool
  | none => false
  | some x => decide (a ≤ x.1)
def uptoL (b : Int) : Option Lab → Bool
  | none => true
  | some x => decide (x.2 ≤ b)
theorem rw_mem {ps : List Pc} (h : Whole ps) (b : Int) {i : Int} (hi : 0 ≤ i) : uptoL b (lab ps i) = true ↔ i < rwF ps b := by
  have t2 := (cntF_ok true (b + 1) ps h.lay h.good).iff i hi
  unfold rwF
  have : (i < cntF true ps (b + 1)) ↔ ¬ (cntF true ps (b + 1) ≤ i) := by omega
  rw [this, ← t2]
  cases lab ps i with
  | none => simp [uptoL, overL]
  | some x => simp [uptoL, overL, sel]; omega
theorem rb_memL {ps : List Pc} (h : Whole ps) (a : Int) {i : Int} (hi : 0 ≤ i) : fromL a (lab ps i) = true ↔ rbF ps a ≤ i := by
  rw [← rb_mem h a hi]
  cases lab ps i with
  | none => simp [fromL]
  | some x => simp [fromL]
section
variable {rows : List (Option Lab)} {ps : List Pc} {v : Int}
theorem Lays.rb_far (L : Lays rows ps v) {a : Int} (ha : v < a) : rbF ps a = rows.length - 1 + a - v := by
  have t1 := L.tl.1
  have n0 := rb_nn L.wh a
  have h1 := (rb_memL L.wh a (i := (rows.length : Int) - 1 + a - v) (by omega)).mp (by rw [L.tl.2 _ (by omega)]; simp [fromL]; omega)
  have h2 := rb_memL L.wh a (i := (rows.length : Int) - 1 + a - v - 1) (by omega)
  rw [L.tl.2 _ (by omega)] at h2
  simp [fromL] at h2
  omega
theorem Lays.rw_far (L : Lays rows ps v) {b : Int} (hb : v ≤ b) : rwF ps b = rows.length + b - v := by
  have t1 := L.tl.1
  have n0 := rw_nn L.wh b
  have h1 := (rw_mem L.wh b (i := (rows.length : Int) - 1 + b - v) (by omega)).mp (by rw [L.tl.2 _ (by omega)]; simp [uptoL]; omega)
  have h2 := rw_mem L.wh b (i := (rows.length : Int) + b - v) (by omega)
  rw [L.tl.2 _ (by omega)] at h2
  simp [uptoL] at h2
  omega
/-- carried, by listed rows -/
def carDue (rows : List (Option Lab)) (v : Int) (s : Span) : Option Span :=
  let first := (insideL (rows.map (fromL s.1))).head?.getD (rows.length - 1 + s.1 - v)
  match s.2 with
  | none => some (first, none)
  | some b =>
    let e := if v ≤ b then rows.length - 1 + b - v else (-1 :: insideL (rows.map (uptoL b))).getLast?.getD 0
    if first ≤ e then some (first, some e) else none
theorem Lays.far (L : Lays rows ps v) {f w : Int} (hf : v < f) (hw : 0 ≤ w) : carF ps (f, some (f + w)) = some (f + (rows.length - 1 - v), some (f + (rows.length - 1 - v) + w)) := by
  have r1 := L.rb_far hf
  have r2 := L.rw_far (b := f + w) (by omega)
  simp only [carF]
  rw [if_neg (by omega)]
  congr 2
  · omega
  · congr 1; omega
end
/-- old rows that follow -/
def olds (v : Int) (n : Nat) : List (Option Lab) := (List.range n).map fun (k : Nat) => some (v + (k : Int), v + (k : Int))
theorem olds_len (v : Int) (n : Nat) : (olds v n).length = n := by simp [olds]
theorem Lays.more {rows : List (Option Lab)} {ps : List Pc} {v : Int} (L : Lays rows ps v) (n : Nat) : Lays (rows ++ olds (v + 1) n) ps (v + n) := by
  have t1 := L.tl.1
  refine ⟨L.wh, L.nr, ?_, fun k hk => ?_, by rw [List.length_append]; omega, fun i hi => ?_⟩
  · cases n with
    | zero => simpa [olds] using L.lst
    | succ n =>
      simp only [olds, List.range_succ, List.map_append]
      rw [← List.append_assoc]
      simp [List.getLast?_append]
      omega
  · rw [List.length_append, olds_len] at hk
    by_cases e : k < rows.length
    · rw [List.getElem?_append_left e]
      exact L.held k e
    · rw [List.getElem?_append_right (by omega), L.tl.2 k (by omega)]
      simp only [olds, List.getElem?_map]
      rw [List.getElem?_range (by omega)]
      simp
      omega
  · rw [List.length_append, olds_len] at hi ⊢
    rw [L.tl.2 i (by omega)]
    simp
    omega
end PR
/-! Q12: listed rows with one row more, or one less. -/
namespace PR
theorem take_lt {α : Type} {xs : List α} {i k : Nat} {x : α} (h : (xs.take i)[k]? = some x) : k < i ∧ xs[k]? = some x := by
  rw [List.getElem?_take] at h
  split at h
  · exact ⟨by assumption, h⟩
  · cases h
theorem GRows.ole_at {rows : List (Option Lab)} {v : Int} (h : GRows rows v) {i j : Nat} {x y : Option Lab} (hij : i < j) (hx : rows[i]? = some x) (hy : rows[j]? = some y) : ole x y := by
  obtain ⟨hi, rfl⟩ := List.getElem?_eq_some_iff.mp hx
  obtain ⟨hj, rfl⟩ := List.getElem?_eq_some_iff.mp hy
  exact List.pairwise_iff_getElem.mp h.pw i j hi hj hij
theorem last_drop {α : Type} {xs : List α} {x : α} {j : Nat} (h : xs.getLast? = some x) (hj : j < xs.length) (ys : List α) : (ys ++ xs.drop j).getLast? = some x := by
  have e : xs.take j ++ xs.drop j = xs := List.take_append_drop j xs
  have ne : xs.drop j ≠ [] := by
    intro z
    have := congrArg List.length z
    simp at this
    omega
  rw [← e, List.getLast?_append] at h
  rw [List.getLast?_append]
  cases h2 : (xs.drop j).getLast? with
  | none => exact absurd (List.getLast?_eq_none_iff.mp h2) ne
  | some z => rw [h2] at h; simpa using h
/-- a row m between the first i rows and those from j on -/
theorem GRows.put {rows : List (Option Lab)} {v : Int} (h : GRows rows v) {i j : Nat} {ms : List (Option Lab)} (hij : i ≤ j) (hj : j < rows.length) (hm : ∀ m ∈ ms, (∀ k x, k < i → rows[k]? = some x → ole x m) ∧ (∀ k x, j ≤ k → rows[k]? = some x → ole m x) ∧ (∀ l, m = some l → labOk l)) (hp : ms.Pairwise ole) : GRows (rows.take i ++ ms ++ rows.drop j) v := by
  have st : ∀ {x}, x ∈ rows.take i → ∃ k, k < i ∧ rows[k]? = some x := fun {x} hx => by
    obtain ⟨k, hk⟩ := List.mem_iff_getElem?.mp hx
    exact ⟨k, take_lt hk⟩
  have sd : ∀ {x}, x ∈ rows.drop j → ∃ k, j ≤ k ∧ rows[k]? = some x := fun {x} hx => by
    obtain ⟨k, hk⟩ := List.mem_iff_getElem?.mp hx
    rw [List.getElem?_drop] at hk
    exact ⟨j + k, by omega, hk⟩
  refine ⟨?_, fun x hx l e => ?_, last_drop h.lst hj _⟩
  · rw [List.pairwise_append, List.pairwise_append]
    refine ⟨⟨h.pw.sublist (List.take_sublist _ _), hp, fun x hx m hm' => ?_⟩, h.pw.sublist (List.drop_sublist _ _), fun x hx y hy => ?_⟩
    · obtain ⟨k, k1, k2⟩ := st hx
      exact (hm m hm').1 k x k1 k2
    · obtain ⟨k', k1', k2'⟩ := sd hy
      rcases List.mem_append.mp hx with hx | hx
      · obtain ⟨k, k1, k2⟩ := st hx
        exact h.ole_at (by omega) k2 k2'
      · exact (hm x hx).2.1 k' y k1' k2'
  · rcases List.mem_append.mp hx with hx | hx
    · rcases List.mem_append.mp hx with hx | hx
      · exact h.ok x (List.mem_of_mem_take hx) l e
      · exact (hm x hx).2.2 l e
    · exact h.ok x (List.mem_of_mem_drop hx) l e
/-- nearly the same rows -/
def Near (rows rows' : List (Option Lab)) (v : Int) : Prop := GRows rows' v ∧ rows.length - 1 ≤ rows'.length ∧ rows'.length ≤ rows.length + 1
section
variable {rows : List (Option Lab)} {v : Int} (h : GRows rows v) {i : Nat}
include h
end
end PR
/-! ML: what the law's helpers promise. -/
namespace PR
open PySem PySem.Spec PyProof.Rows L2 DL
abbrev C__law_bag : Ctr := C_bag
abbrev C__law_pull : Ctr := C_pull
abbrev C__law_of : Ctr := C_of
/-! ### like -/
mutual
/-- data that is compared part by part -/
def lk : D → Bool
  | .non => true
  | .bl _ => true
  | .int _ => true
  | .str x => PyData.strOk x
  | .tup ds => decide (ds.length < 1000) && lks ds
  | .lst ds => decide (ds.length < 1000) && lks ds
  | _ => false
def lks : List D → Bool
  | [] => true
  | d :: ds => lk d && lks ds
end
@[simp] theorem lk_non : lk .non = true := rfl
@[simp] theorem lk_bl (b : Bool) : lk (.bl b) = true := rfl
@[simp] theorem lk_int (b : Int) : lk (.int b) = true := rfl
@[simp] theorem lk_str (b : Str) : lk (.str b) = PyData.strOk b := rfl
@[simp] theorem lk_tup (ds : List D) : lk (.tup ds) = (decide (ds.length < 1000) && lks ds) := rfl
@[simp] theorem lk_lst (ds : List D) : lk (.lst ds) = (decide (ds.length < 1000) && lks ds) := rfl
@[simp] theorem lks_nil : lks [] = true := rfl
@[simp] theorem lks_cons (d : D) (ds : List D) : lks (d :: ds) = (lk d && lks ds) := rfl
/-- alike: the same data -/
def C_like (n : Nat) : Ctr := fun ds Q => ∃ a : D, ds = [a, a] ∧ lk a = true ∧ dep a ≤ n ∧ Q (.v 2 (.bl true))
abbrev C__law_like : Ctr := C_like 10
/-! ### rows -/
def C__law_rolled : Ctr := fun ds Q => ∃ rows : List (Option Lab), ds = [.lst (rows.map oL)] ∧ oldEnd rows ∧ rows.length < 1000 ∧ Q (.own (pcsD (roll rows)))
def C__law_any_rows : Ctr := fun ds Q => ∃ most : Nat, ds = [.bag, .int most] ∧ most ≤ 50 ∧ ∀ rows, Rows most rows → Q (.own (rows.map oL))
def C__law_made_of : Ctr := fun ds Q => ∃ (rows : List (Option Lab)) (v : Int), ds = [.lst (rows.map oL)] ∧ GRows rows v ∧ rows.length ≤ 60 ∧ Q (.v 2 (layD (roll rows)))
def C__law_is_break : Ctr := fun ds Q => ∃ (b : Option Lab) (a : Lab), ds = [oL b, labD a] ∧ Q (.v 2 (.bl (brkL b a)))
def C__law_breaks : Ctr := fun ds Q => ∃ rows : List (Option Lab), ds = [.lst (rows.map oL)] ∧ oldEnd rows ∧ rows.length < 1000 ∧ Q (.own ((brkR none (labsOf rows)).map brkD))
end PR
/-! TL: the readings of the law helpers (printed by mkt.py). -/
namespace PR
open PySem PySem.Spec PyProof.Rows L2 DL
abbrev N__law_pull : List Str := ["_law_bag_here", "_law_size", "_law_mix", "_law_figure", "_law_found"]
abbrev P__law_pull : List Str := ["_law_bag_here", "_law_size"]
def t__law_pull : DTS := (dSeq (dAsg (dOp fAdd (dBg 4) (dK (.int 1))) (gBg 4)) (dSeq (dIf (tvAnd (tV (dOp fEq (dBg 2) (dK (.int 0)))) (tV (dOp fLt (dBg 1) (dCB fLen (aCons (dBg 0) aNil))))) (dSeq (dSet 3 (dOp fIx (dBg 0) (dBg 1))) (dSeq (dAsg (dOp fAdd (dBg 1) (dK (.int 1))) (gBg 1)) (dIf (tV (dOp fGe (dVar 3) (dOp fPow (dK (.int 10)) (dK (.int 18))))) (dAsg (dVar 3) (gBg 2)) (dSeq (dSet 2 (dOp fAdd (dOp fMul (dBg 3) (dK (.int 48271))) (dOp fMul (dOp fMod (dVar 3) (dK (.int 2147483563))) (dK (.int 69621))))) (dAsg (dOp fMod (dOp fAdd (dVar 2) (dK (.int 11))) (dK (.int 2147483563))) (gBg 3)))))) dNext) (dSeq (dIf (tV (dOp fGt (dBg 2) (dK (.int 0)))) (dSeq (dSet 4 (dOp fMod (dBg 2) (dVar 1))) (dSeq (dAsg (dOp fDiv (dBg 2) (dVar 1)) (gBg 2)) (dRetB (dVar 4)))) dNext) (dSeq (dSet 2 (dOp fAdd (dOp fMul (dOp fMul (dBg 3) (dBg 3)) (dK (.int 5))) (dOp fMul (dBg 3) (dK (.int 39373))))) (dSeq (dAsg (dOp fMod (dOp fAdd (dVar 2) (dOp fMul (dK (.int 1013904223)) (dBg 4))) (dK (.int 2147483563))) (gBg 3)) (dRetB (dOp fMod (dOp fDiv (dBg 3) (dK (.int 37))) (dVar 1))))))))
abbrev N__law_of : List Str := ["_law_bag_here", "_law_some"]
abbrev P__law_of : List Str := ["_law_bag_here", "_law_some"]
def t__law_of : DTS := (dRet (dOp fIx (dVar 1) (dCall C__law_pull [] (aCons (dVar 0) (aCons (dCB fLen (aCons (dVar 1) aNil)) aNil)))))
abbrev N__law_like : List Str := ["_law_found", "_law_due", "_law_k"]
abbrev P__law_like : List Str := ["_law_found", "_law_due"]
def le1__law_like (CR : Ctr) : DTE := (dCall CR [] (aCons (dOp fIx (dVar 0) (dVar 2)) (aCons (dOp fIx (dVar 1) (dVar 2)) aNil)))
theorem le1__law_like_e (CR : Ctr) (τ : DSt) (Q : Sl → Prop) : (le1__law_like CR) τ Q = (dCall CR [] (aCons (dOp fIx (dVar 0) (dVar 2)) (aCons (dOp fIx (dVar 1) (dVar 2)) aNil))) τ Q := rfl
def t__law_like (CR : Ctr) : DTS := (dSeq (dIf (tV (dIsI2 .tup .lst (dVar 1))) (dSeq (dIf (tvOr (tV (dOp fNe (dIsI .tup (dVar 0)) (dIsI .tup (dVar 1)))) (tV (dOp fNe (dIsI .lst (dVar 0)) (dIsI .lst (dVar 1))))) (dRet (dK (.bl false))) dNext) (dRet (vAnd (dOp fEq (dCB fLen (aCons (dVar 0) aNil)) (dCB fLen (aCons (dVar 1) aNil))) (dCB fAll (aCons (dLcR (aCons (dCB fLen (aCons (dVar 1) aNil)) aNil) (gN 2) tYesD (le1__law_like CR) [2]) aNil))))) dNext) (dSeq (dIf (tvOr (tV (dIsN (dVar 1))) (tV (dIsN (dVar 0)))) (dRet (vAnd (dIsN (dVar 1)) (dIsN (dVar 0)))) dNext) (dRet (vAnd (dOp fEq (dIsI .bool (dVar 0)) (dIsI .bool (dVar 1))) (dOp fEq (dVar 0) (dVar 1))))))
abbrev N__law_rolled : List Str := ["_law_rows", "_law_found", "_law_label", "_law_last", "_law_piece", "_law_both", "_law_same"]
abbrev P__law_rolled : List Str := ["_law_rows"]
def lb1__law_rolled : DTS := (dSeq (dSet 3 (dIfE (tV (dOp fNe (dVar 1) (dLst aNil))) (dIxL (dVar 1)) (dTup (aCons (dK (.str "")) (aCons (dK (.int 0)) (aCons (dK (.int 0)) (aCons (dK (.int 0)) aNil))))))) (dSeq (dIf (tV (dIsN (dVar 2))) (dSeq (dPar 4 5 false false (dTup (aCons (dK (.str "top")) (aCons (dK (.int 1)) aNil))) (dTup (aCons (dK (.str "top")) (aCons (dOp fAdd (dIxK 1 (dVar 3)) (dK (.int 1))) aNil)))) (dSet 6 (dOp fEq (dIxK 0 (dVar 3)) (dK (.str "top"))))) (dIf (tV (dOp fEq (dIxK 0 (dVar 2)) (dIxK 1 (dVar 2)))) (dSeq (dPar 4 5 false false (dTup (aCons (dK (.str "old")) (aCons (dIxK 0 (dVar 2)) (aCons (dIxK 0 (dVar 2)) aNil)))) (dTup (aCons (dK (.str "old")) (aCons (dIxK 1 (dVar 3)) (aCons (dIxK 0 (dVar 2)) aNil))))) (dSet 6 (vAnd (dOp fEq (dIxK 0 (dVar 3)) (dK (.str "old"))) (dOp fEq (dOp fAdd (dIxK 2 (dVar 3)) (dK (.int 1))) (dIxK 0 (dVar 2)))))) (dSeq (dPar 4 5 false false (dTup (aCons (dK (.str "new")) (aCons (dIxK 0 (dVar 2)) (aCons (dIxK 1 (dVar 2)) (aCons (dK (.int 1)) aNil))))) (dTup (aCons (dK (.str "new")) (aCons (dIxK 0 (dVar 2)) (aCons (dIxK 1 (dVar 2)) (aCons (dOp fAdd (dIxL (dVar 3)) (dK (.int 1))) aNil)))))) (dSet 6 (dOp fEq (dSl (dVar 3) oNone (oSome (dK (.int 3)))) (dSl (dVar 4) oNone (oSome (dK (.int 3))))))))) (dSet 1 (dIfE (tV (dVar 6)) (dOp fAdd (dSl (dVar 1) oNone (oSome (dNeg (dK (.int 1))))) (dLst (aCons (dVar 5) aNil))) (dOp fAdd (dVar 1) (dLst (aCons (dVar 4) aNil)))))))
def t__law_rolled : DTS := (dSeq (dSet 1 (dLst aNil)) (dSeq (dFor (dVar 0) (gN 2) lb1__law_rolled) (dRet (dOp fAdd (dSl (dVar 1) oNone (oSome (dNeg (dK (.int 1))))) (dLst (aCons (dTup (aCons (dK (.str "old")) (aCons (dIxK 1 (dIxL (dVar 1))) (aCons (dK .non) aNil)))) aNil))))))
abbrev N__law_any_rows : List Str := ["_law_bag_here", "_law_most", "_law_rows", "_law_low", "_law_high", "_law_last", "_law_k", "_law_first", "_law_row"]
abbrev P__law_any_rows : List Str := ["_law_bag_here", "_law_most"]
def le1__law_any_rows : DTE := (dTup (aCons (dVar 8) (aCons (dVar 8) aNil)))
def lb2__law_any_rows : DTS := (dIf (tV (dOp fEq (dCall C__law_pull [] (aCons (dVar 0) (aCons (dK (.int 3)) aNil))) (dK (.int 0)))) (dSeq (dSet 7 (dOp fAdd (dCB fMax3 (aCons (dVar 3) (aCons (dVar 4) (aCons (dOp fAdd (dVar 5) (dK (.int 1))) aNil)))) (dCall C__law_of [] (aCons (dVar 0) (aCons (dLst (aCons (dK (.int 0)) (aCons (dK (.int 0)) (aCons (dK (.int 1)) (aCons (dK (.int 2)) aNil))))) aNil))))) (dSeq (dSet 5 (dOp fAdd (dVar 7) (dCall C__law_of [] (aCons (dVar 0) (aCons (dLst (aCons (dK (.int 0)) (aCons (dK (.int 0)) (aCons (dK (.int 1)) (aCons (dK (.int 2)) aNil))))) aNil))))) (dSeq (dSet 2 (dOp fAdd (dVar 2) (dLcR2 (aCons (dVar 7) (aCons (dOp fAdd (dVar 5) (dK (.int 1))) aNil)) (gN 8) tYesD le1__law_any_rows [8]))) (dPar 3 4 false false (dVar 5) (dVar 5))))) (dSeq (dSet 3 (dOp fAdd (dVar 3) (dCall C__law_of [] (aCons (dVar 0) (aCons (dLst (aCons (dK (.int 0)) (aCons (dK (.int 0)) (aCons (dK (.int 1)) (aCons (dK (.int 2)) aNil))))) aNil))))) (dSeq (dSet 4 (dOp fAdd (dCB fMax (aCons (dVar 4) (aCons (dOp fAdd (dVar 3) (dK (.int 1))) aNil))) (dCall C__law_of [] (aCons (dVar 0) (aCons (dLst (aCons (dK (.int 0)) (aCons (dK (.int 0)) (aCons (dK (.int 1)) (aCons (dK (.int 3)) aNil))))) aNil))))) (dSet 2 (dOp fAdd (dVar 2) (dOp fMul (dLst (aCons (dTup (aCons (dVar 3) (aCons (dVar 4) aNil))) aNil)) (dCall C__law_of [] (aCons (dVar 0) (aCons (dLst (aCons (dK (.int 1)) (aCons (dK (.int 1)) (aCons (dK (.int 2)) (aCons (dK (.int 3)) aNil))))) aNil)))))))))
def le3__law_any_rows : DTE := (dTup (aCons (dVar 8) (aCons (dVar 8) aNil)))
def t__law_any_rows : DTS := (dSeq (dAsg (dTup (aCons (dOp fMul (dLst (aCons (dK .non) aNil)) (dCall C__law_of [] (aCons (dVar 0) (aCons (dLst (aCons (dK (.int 0)) (aCons (dK (.int 0)) (aCons (dK (.int 1)) (aCons (dK (.int 3)) aNil))))) aNil)))) (aCons (dK (.int 0)) (aCons (dK (.int 0)) (aCons (dNeg (dK (.int 1))) aNil))))) (gT 4 (gsCons (gN 2) (gsCons (gN 3) (gsCons (gN 4) (gsCons (gN 5) gsNil)))))) (dSeq (dForR (aCons (dCall C__law_pull [] (aCons (dVar 0) (aCons (dOp fAdd (dVar 1) (dK (.int 1))) aNil))) aNil) (gN 6) lb2__law_any_rows) (dSeq (dSet 7 (dOp fAdd (dCB fMax3 (aCons (dVar 3) (aCons (dVar 4) (aCons (dOp fAdd (dVar 5) (dK (.int 1))) aNil)))) (dCall C__law_of [] (aCons (dVar 0) (aCons (dLst (aCons (dK (.int 0)) (aCons (dK (.int 0)) (aCons (dK (.int 1)) (aCons (dK (.int 2)) aNil))))) aNil))))) (dRet (dOp fAdd (dVar 2) (dLcR2 (aCons (dVar 7) (aCons (dOp fAdd (dVar 7) (dK (.int 9))) aNil)) (gN 8) tYesD le3__law_any_rows [8]))))))
abbrev N__law_is_break : List Str := ["_law_x", "_law_y"]
abbrev P__law_is_break : List Str := ["_law_x", "_law_y"]
def t__law_is_break : DTS := (dSeq (dIf (tV (dIsN (dVar 0))) (dRet (dOp fNe (dVar 1) (dTup (aCons (dK (.int 0)) (aCons (dK (.int 0)) aNil))))) dNext) (dSeq (dIf (tvOr (tV (dOp fEq (dIxK 0 (dVar 0)) (dIxK 0 (dVar 1)))) (tV (dOp fEq (dIxK 1 (dVar 0)) (dIxK 1 (dVar 1))))) (dRet (dK (.bl false))) dNext) (dRet (vNot (vAnd (dOp fEq (dIxK 0 (dVar 0)) (dIxK 1 (dVar 0))) (vAnd (dOp fEq (dIxK 0 (dVar 1)) (dIxK 1 (dVar 1))) (dOp fEq (dOp fAdd (dIxK 0 (dVar 0)) (dK (.int 1))) (dIxK 0 (dVar 1)))))))))
abbrev N__law_breaks : List Str := ["_law_rows", "_law_labels", "_law_pairs", "_law_label", "_law_pair", "_law_k"]
abbrev P__law_breaks : List Str := ["_law_rows"]
def lt1__law_breaks : DTT := (tV (dNotN (dVar 3)))
def le2__law_breaks : DTE := (dVar 3)
def le3__law_breaks : DTE := (dTup (aCons (dOp fIx (dVar 1) (dVar 5)) (aCons (dOp fIx (dVar 1) (dOp fAdd (dVar 5) (dK (.int 1)))) aNil)))
def lt4__law_breaks : DTT := (tV (dCall C__law_is_break [] (aCons (dIxK 0 (dVar 4)) (aCons (dIxK 1 (dVar 4)) aNil))))
def le5__law_breaks : DTE := (dVar 4)
def t__law_breaks : DTS := (dSeq (dSet 1 (dLc (dVar 0) (gN 3) lt1__law_breaks le2__law_breaks [3])) (dSeq (dSet 2 (dOp fAdd (dLst (aCons (dTup (aCons (dK .non) (aCons (dIxK 0 (dVar 1)) aNil))) aNil)) (dLcR (aCons (dOp fSub (dCB fLen (aCons (dVar 1) aNil)) (dK (.int 1))) aNil) (gN 5) tYesD le3__law_breaks [5]))) (dRet (dLc (dVar 2) (gN 4) lt4__law_breaks le5__law_breaks [4]))))
abbrev N__law_made_of : List Str := ["_law_rows"]
abbrev P__law_made_of : List Str := ["_law_rows"]
def t__law_made_of : DTS := (dRet (dMake 0 C_Layout___init__ [] (aCons (dCall C__law_rolled [] (aCons (dVar 0) aNil)) aNil)))
end PR
/-! PL: what the law's helpers do. -/
namespace PR
open PySem PySem.Spec PyProof.Rows L2 DL
theorem bagGood_mk {L : Addr} {ns : List Int} {i x m c : Int} {r : DSt} (a1 : 0 ≤ i) (a2 : 0 ≤ x) (a3 : 0 ≤ m) (a4 : m < 2147483563) (a5 : 0 ≤ c) : bagGood L (.ins 999 (bagD L ns i x m c) :: r) := ⟨ns, i, x, m, c, rfl, a1, a2, a3, a4, a5⟩
def pullT : DTS := (dSeq (dIf (tV (dOp fGt (dBg 2) (dK (.int 0)))) (dSeq (dSet 4 (dOp fMod (dBg 2) (dVar 1))) (dSeq (dAsg (dOp fDiv (dBg 2) (dVar 1)) (gBg 2)) (dRetB (dVar 4)))) dNext) (dSeq (dSet 2 (dOp fAdd (dOp fMul (dOp fMul (dBg 3) (dBg 3)) (dK (.int 5))) (dOp fMul (dBg 3) (dK (.int 39373))))) (dSeq (dAsg (dOp fMod (dOp fAdd (dVar 2) (dOp fMul (dK (.int 1013904223)) (dBg 4))) (dK (.int 2147483563))) (gBg 3)) (dRetB (dOp fMod (dOp fDiv (dBg 3) (dK (.int 37))) (dVar 1))))))
theorem pullT_ok {R : DSt → D → Prop} {L : Addr} {ns : List Int} {i x m c n : Int} {s2 s3 s4 : Sl} (h1 : 0 ≤ i) (h2 : 0 ≤ x) (h3 : 0 ≤ m) (h4 : m < 2147483563) (h5 : 0 ≤ c) (h6 : 0 < n) (h7 : n < 10000000000000000000000000000000000000000)
    (fin : ∀ (i x m c k : Int) (r : DSt), 0 ≤ i → 0 ≤ x → 0 ≤ m → m < 2147483563 → 0 ≤ c → 0 ≤ k → k < n → R (.ins 999 (bagD L ns i x m c) :: r) (.int k)) :
    pullT { nx := fun _ => False, rt := fun _ => False, rb := R } [.ins 999 (bagD L ns i x m c), .v 2 (.int n), s2, s3, s4] := by
  have hm : ∀ a : Int, 0 ≤ a % n ∧ a % n < n := fun a => ⟨Int.emod_nonneg a (by omega), Int.emod_lt_of_pos a h6⟩
  by_cases hx : 0 < x
  · have c0 : ∀ y : Int, CDivW y n := fun y => cdivW h6 h7
    simp [pullT, bagD, hx, h6, c0]
    exact fin i (x / n) m c _ _ h1 (Int.ediv_nonneg h2 (by omega)) h3 h4 h5 (hm _).1 (hm _).2
  · have e : x = 0 := by omega
    subst e
    have c1 : ∀ y : Int, CMul m y := fun y => .inl ⟨by omega, by omega⟩
    have c2 : ∀ y : Int, CMul y 5 := fun y => .inr ⟨by omega, by omega⟩
    have c3 : ∀ y : Int, CMul 1013904223 y := fun y => .inl ⟨by omega, by omega⟩
    have c4 : ∀ y : Int, CDivW y 37 := fun y => cdivW (by decide) (by decide)
    simp [pullT, bagD, c1, c2, c3, h6, c4]
    generalize (m * m * 5 + m * 39373 + 1013904223 * c) = z
    exact fin i 0 _ c _ _ h1 (by decide) (Int.emod_nonneg z (by decide)) (Int.emod_lt_of_pos z (by decide)) h5 (hm _).1 (hm _).2

def pullA : DTS := dSeq (dSet 3 (dOp fIx (dBg 0) (dBg 1))) (dSeq (dAsg (dOp fAdd (dBg 1) (dK (.int 1))) (gBg 1)) (dIf (tV (dOp fGe (dVar 3) (dOp fPow (dK (.int 10)) (dK (.int 18))))) (dAsg (dVar 3) (gBg 2)) (dSeq (dSet 2 (dOp fAdd (dOp fMul (dBg 3) (dK (.int 48271))) (dOp fMul (dOp fMod (dVar 3) (dK (.int 2147483563))) (dK (.int 69621))))) (dAsg (dOp fMod (dOp fAdd (dVar 2) (dK (.int 11))) (dK (.int 2147483563))) (gBg 3)))))
theorem pullA_ok {E : DEnds} {L : Addr} {ns : List Int} {i m c n : Int} {s2 s3 s4 : Sl} (h1 : 0 ≤ i) (hi : i < ns.length) (h3 : 0 ≤ m) (h4 : m < 2147483563)
    (fin : ∀ (i x m : Int) (s2 s3 : Sl), 0 ≤ i → 0 ≤ x → 0 ≤ m → m < 2147483563 → E.nx [.ins 999 (bagD L ns i x m c), .v 2 (.int n), s2, s3, s4]) :
    pullA E [.ins 999 (bagD L ns i 0 m c), .v 2 (.int n), s2, s3, s4] := by
  obtain ⟨k, rfl⟩ := Int.eq_ofNat_of_zero_le h1
  have hk : k < ns.length := by omega
  have e : L2.atI (ns.map D.int) (k : Int) = some (.int ns[k]) := by rw [atI_k, List.getElem?_map, List.getElem?_eq_getElem hk]; rfl
  have c1 : ∀ y : Int, CMul m y := fun y => .inl ⟨by omega, by omega⟩
  have c2 : ∀ y : Int, CMul y 69621 := fun y => .inr ⟨by omega, by omega⟩
  have c3 : CPow 10 18 := ⟨by decide, by decide, by decide⟩
  have e2 : (10 : Int) ^ 18 = 1000000000000000000 := by decide
  generalize hv : ns[k] = v at e
  have hE := fin (k + 1)
  simp [pullA, bagD, e, c1, c2, c3]
  split
  · exact hE v m _ _ (by omega) (by omega) h3 h4
  · generalize (m * 48271 + v % 2147483563 * 69621 + 11) = z
    exact hE 0 _ _ _ (by omega) (by decide) (Int.emod_nonneg z (by decide)) (Int.emod_lt_of_pos z (by decide))
theorem pure__law_pull (L : Addr) (ns : List Int) (i x m c n : Int) (h1 : 0 ≤ i) (h2 : 0 ≤ x) (h3 : 0 ≤ m) (h4 : m < 2147483563) (h5 : 0 ≤ c) (h6 : 0 < n) (h7 : n < 10000000000000000000000000000000000000000) :
    t__law_pull { nx := fun _ => False, rt := fun _ => False, rb := fun τ d => bagGood L τ ∧ ∃ k : Int, d = .int k ∧ 0 ≤ k ∧ k < n } (startP N__law_pull L ns i x m c n) := by
  generalize hR : (fun (τ : DSt) (d : D) => bagGood L τ ∧ ∃ k : Int, d = .int k ∧ 0 ≤ k ∧ k < n) = R
  have fin : ∀ (i x m c k : Int) (r : DSt), 0 ≤ i → 0 ≤ x → 0 ≤ m → m < 2147483563 → 0 ≤ c → 0 ≤ k → k < n → R (.ins 999 (bagD L ns i x m c) :: r) (.int k) := by
    intro i x m c k r a1 a2 a3 a4 a5 a6 a7
    rw [← hR]
    exact ⟨bagGood_mk a1 a2 a3 a4 a5, k, rfl, a6, a7⟩
  clear hR
  have hc : 0 ≤ c + 1 := by omega
  have T := fun {i x m : Int} {s2 s3 s4 : Sl} a1 a2 a3 a4 => pullT_ok (R := R) (L := L) (ns := ns) (i := i) (x := x) (m := m) (c := c + 1) (n := n) (s2 := s2) (s3 := s3) (s4 := s4) a1 a2 a3 a4 hc h6 h7 fin
  show dSeq (dAsg (dOp fAdd (dBg 4) (dK (.int 1))) (gBg 4)) (dSeq (dIf (tvAnd (tV (dOp fEq (dBg 2) (dK (.int 0)))) (tV (dOp fLt (dBg 1) (dCB fLen (aCons (dBg 0) aNil))))) pullA dNext) pullT) { nx := fun _ => False, rt := fun _ => False, rb := R } (startP N__law_pull L ns i x m c n)
  by_cases hx : x = 0
  · subst hx
    by_cases hi : i < ns.length
    · simp [bagD, hi]
      exact pullA_ok h1 hi h3 h4 fun i x m s2 s3 a1 a2 a3 a4 => T a1 a2 a3 a4
    · simp [bagD, hi]
      exact T h1 h2 h3 h4
  · simp [bagD, hx]
    exact T h1 h2 h3 h4
theorem pure__law_of : Pure C__law_of t__law_of N__law_of := by
  intro ds QD h
  match ds, h with
  | [.bag, .lst es], ⟨h1, h2, h3, q⟩ =>
    simp [t__law_of, h1]
    refine ⟨by omega, by omega, fun k k1 k2 => ?_⟩
    obtain ⟨j, rfl⟩ := Int.eq_ofNat_of_zero_le k1
    have hj : j < es.length := by omega
    show match L2.atI es (j : Int) with
      | some x => _
      | none => False
    rw [atI_k, List.getElem?_eq_getElem hj]
    have hi : ∀ d ∈ es, d.imm = true := by
      clear q h2 h3 k2 hj
      induction es with
      | nil => intro d hd; cases hd
      | cons x es ih =>
        simp at h1
        intro d hd
        rcases List.mem_cons.mp hd with rfl | hd
        · exact h1.1
        · exact ih h1.2 d hd
    have hm := List.getElem_mem hj
    simp [hi _ hm]
    exact q _ hm

/-! ### like -/
theorem lk_lay : ∀ d : D, lk d = true → lay d = true
  | .non, _ => rfl
  | .bl _, _ => rfl
  | .int _, _ => rfl
  | .str x, h => h
  | .tup ds, h => by
    simp at h
    simpa using lks_lays ds h.2
  | .lst ds, h => by
    simp at h
    simpa using lks_lays ds h.2
  | .obj _ _, h => by cases h
  | .bag, h => by cases h
  | .cls _, h => by cases h
  | .lat _ _, h => by cases h
  | .scr _, h => by cases h
  | .exn _ _ _ _, h => by cases h
where lks_lays : ∀ ds : List D, lks ds = true → lays ds = true
  | [], _ => rfl
  | d :: ds, h => by
    simp at h ⊢
    exact ⟨lk_lay d h.1, lks_lays ds h.2⟩
theorem lks_get {ds : List D} {i : Nat} {d : D} (h : lks ds = true) (e : ds[i]? = some d) : lk d = true := by
  induction ds generalizing i with
  | nil => simp at e
  | cons x ds ih =>
    simp at h
    cases i with
    | zero => simp at e; rw [← e]; exact h.1
    | succ i => simp at e; exact ih h.2 e
theorem deps_get {ds : List D} {i : Nat} {d : D} {n : Nat} (h : deps ds ≤ n) (e : ds[i]? = some d) : dep d ≤ n := by
  induction ds generalizing i with
  | nil => simp at e
  | cons x ds ih =>
    simp at h
    cases i with
    | zero => simp at e; rw [← e]; exact h.1
    | succ i => simp at e; exact ih h.2 e
theorem bools_rep_true : ∀ k : Nat, bools (List.replicate k (.bl true)) = some (List.replicate k true)
  | 0 => rfl
  | k + 1 => by rw [List.replicate_succ, List.replicate_succ]; simp [bools_rep_true k]
theorem comp_like {n : Nat} {Q : Sl → Prop} {ds : List D} {g : Nat} {s2 : Sl} (tu : Bool) (hk : lks ds = true) (hd : deps ds ≤ n) (hl : ds.length < 1000) (hQ : Q (.own (List.replicate ds.length (.bl true)))) :
    ∀ (m k : Nat) (acc : List D), k + m = ds.length → acc = List.replicate k (.bl true) → compRec 2 (gN 2) tYesD (le1__law_like (C_like n)) [.v g (seqOf tu ds), .v g (seqOf tu ds), s2] Q (rangeL k m) acc
  | 0, k, acc, h, ea => by
    subst ea
    rw [show k = ds.length by omega]
    exact hQ
  | m + 1, k, acc, h, ea => by
    have hlt : k < ds.length := by omega
    have e1 : ds[k]? = some ds[k] := List.getElem?_eq_getElem hlt
    have ih := comp_like (s2 := s2) (g := g) tu hk hd hl hQ m (k + 1) (acc ++ [.bl true]) (by omega) (by rw [ea, ← List.replicate_succ'])
    have ei : L2.atI ds (k : Int) = some ds[k] := by rw [atI_k, e1]
    have hacc : acc.length < 1000000 := by rw [ea, List.length_replicate]; omega
    simp [le1__law_like_e, ei]
    refine ⟨ds[k], rfl, lks_get hk e1, deps_get hd e1, ?_⟩
    simp [hacc]
    have e3 : (k : Int) + 1 = ((k + 1 : Nat) : Int) := by omega
    rw [e3]
    exact ih
theorem like_step (n : Nat) : Pure (C_like (n + 1)) (t__law_like (C_like n)) N__law_like := by
  rintro ds QD ⟨a, rfl, h1, h2, q⟩
  have sh : lay a = true := lk_lay a h1
  have seqCase : ∀ (tu : Bool) (es : List D), a = seqOf tu es → t__law_like (C_like n) { nx := fun _ => QD (.v 2 .non), rt := QD } (startD N__law_like [a, a]) := by
    intro tu es e
    have hes : es.length < 1000 ∧ lks es = true ∧ deps es ≤ n := by
      subst e
      cases tu <;> simp [seqOf] at h1 h2 <;> exact ⟨h1.1, h1.2, h2⟩
    obtain ⟨e1, e2, e3⟩ := hes
    have key : ∀ g s2 Q, Q (Sl.own (List.replicate es.length (.bl true))) → compRec 2 (gN 2) tYesD (le1__law_like (C_like n)) [.v g a, .v g a, s2] Q (rangeL 0 es.length) [] := by
      intro g s2 Q hQ
      rw [e]
      exact comp_like tu e2 e3 e1 hQ es.length 0 [] (by omega) rfl
    have fin : bools (List.replicate es.length (.bl true)) = some (List.replicate es.length true) := bools_rep_true _
    subst e
    cases tu
    all_goals
      simp [t__law_like, seqOf, isKind] at key ⊢
      refine ⟨by omega, key _ _ _ ?_⟩
      simp [fin]
      exact q
  cases a with
  | tup es => exact seqCase true es rfl
  | lst es => exact seqCase false es rfl
  | non => simpa [t__law_like, isKind] using q
  | bl b => simpa [t__law_like, isKind] using q
  | int i => simpa [t__law_like, isKind] using q
  | str x =>
    simp at sh
    simpa [t__law_like, isKind, sh] using q
  | obj c es => cases h1
  | bag => cases h1
  | cls c => cases h1
  | lat b es => cases h1
  | scr ns => cases h1
  | exn _ _ _ _ => cases h1
  | adr _ => cases h1
  | dcK _ _ => cases h1
  | dcT _ _ => cases h1

theorem like_zero : Pure (C_like 0) (t__law_like fun _ _ => False) N__law_like := by
  rintro ds QD ⟨a, rfl, h1, h2, q⟩
  have sh : lay a = true := lk_lay a h1
  cases a with
  | tup es => simp at h2
  | lst es => simp at h2
  | non => simpa [t__law_like, isKind] using q
  | bl b => simpa [t__law_like, isKind] using q
  | int i => simpa [t__law_like, isKind] using q
  | str x =>
    simp at sh
    simpa [t__law_like, isKind, sh] using q
  | obj c es => cases h1
  | bag => cases h1
  | cls c => cases h1
  | lat b es => cases h1
  | scr ns => cases h1
  | exn _ _ _ _ => cases h1
  | adr _ => cases h1
  | dcK _ _ => cases h1
  | dcT _ _ => cases h1
/-! ### rolled -/
end PR
/-! PL2: rows rolled into pieces. -/
namespace PR
open PySem PySem.Spec PyProof.Rows L2 DL
end PR
/-! PL3: rows of any kind. -/
namespace PR
open PySem PySem.Spec PyProof.Rows L2 DL
theorem use_pull {n : Int} {Q : Sl → Prop} (h0 : 0 < n) (h1 : n < 10000000000000000000000000000000000000000) (h : ∀ k : Int, 0 ≤ k → k < n → Q (.v 2 (.int k))) : C_pull [.bag, .int n] Q := ⟨h0, h1, h⟩
abbrev oldsD (v : Int) (n : Nat) : List (Option Lab) := (rangeI v n).map fun i => some (i, i)
/-- how far the rows have come behind j turns -/
theorem rollF_len (found : List Pc) (x : Option Lab) : (rollF found x).length ≤ found.length + 1 := by
  have d : found.dropLast.length ≤ found.length := by rw [List.length_dropLast]; omega
  have k1 : ∀ p : Pc, (found.dropLast ++ [p]).length ≤ found.length + 1 := fun p => by rw [List.length_append, List.length_singleton]; omega
  have k2 : ∀ p : Pc, (found ++ [p]).length ≤ found.length + 1 := fun p => by rw [List.length_append, List.length_singleton]; omega
  cases x with
  | none =>
    show (match found.getLast? with
      | some (.top n) => found.dropLast ++ [.top (n + 1)]
      | _ => found ++ [.top 1] : List Pc).length ≤ _
    split
    · exact k1 _
    · exact k2 _
  | some y =>
    obtain ⟨l, h⟩ := y
    show (if l = h then (match found.getLast? with
      | some (.old a (some b)) => if b + 1 = l then found.dropLast ++ [.old a (some l)] else found ++ [.old l (some l)]
      | _ => found ++ [.old l (some l)])
      else (match found.getLast? with
      | some (.new l' h' n) => if l' = l ∧ h' = h then found.dropLast ++ [.new l h (n + 1)] else found ++ [.new l h 1]
      | _ => found ++ [.new l h 1]) : List Pc).length ≤ _
    split
    · split
      · split
        · exact k1 _
        · exact k2 _
      · exact k2 _
    · split
      · split
        · exact k1 _
        · exact k2 _
      · exact k2 _
theorem drop_snoc {xs : List Pc} {p q : Pc} (h : xs.getLast? = some p) : (xs.dropLast ++ [q]).length = xs.length ∧ (xs.dropLast ++ [q]).getLast? = some q := by
  have : xs ≠ [] := fun z => by subst z; cases h
  have hl : 0 < xs.length := List.length_pos_iff.mpr this
  exact ⟨by simp; omega, by simp⟩
theorem roll_new {l hh : Int} (ne : l ≠ hh) : ∀ (n : Nat) (found : List Pc) (m : Int), found.getLast? = some (.new l hh m) → ((List.replicate n (some (l, hh) : Option Lab)).foldl rollF found).length = found.length
  | 0, _, _, _ => rfl
  | n + 1, found, m, h => by
    have e : rollF found (some (l, hh)) = found.dropLast ++ [.new l hh (m + 1)] := by simp [rollF, h, ne]
    obtain ⟨d1, d2⟩ := drop_snoc (q := .new l hh (m + 1)) h
    rw [List.replicate_succ, List.foldl_cons, e, roll_new ne n _ _ d2, d1]
theorem roll_olds : ∀ (n : Nat) (f : Int) (found : List Pc) (a : Int), found.getLast? = some (.old a (some (f - 1))) → ((oldsD f n).foldl rollF found).length = found.length
  | 0, _, _, _, _ => rfl
  | n + 1, f, found, a, h => by
    have e : rollF found (some (f, f)) = found.dropLast ++ [.old a (some f)] := by simp [rollF, h]
    obtain ⟨d1, d2⟩ := drop_snoc (q := .old a (some f)) h
    have ih := roll_olds n (f + 1) (found.dropLast ++ [.old a (some f)]) a (by rw [d2]; congr 3; omega)
    show ((some (f, f) :: oldsD (f + 1) n).foldl rollF found).length = _
    rw [List.foldl_cons, e, ih, d1]
theorem roll_new1 {l hh : Int} (ne : l ≠ hh) (n : Nat) (found : List Pc) : ((List.replicate n (some (l, hh) : Option Lab)).foldl rollF found).length ≤ found.length + 1 := by
  cases n with
  | zero => simp
  | succ n =>
    have : ∃ m, (rollF found (some (l, hh))).getLast? = some (.new l hh m) := by
      simp only [rollF, if_neg ne]
      split
      · split
        · exact ⟨_, List.getLast?_concat⟩
        · exact ⟨_, List.getLast?_concat⟩
      · exact ⟨_, List.getLast?_concat⟩
    obtain ⟨m, hm⟩ := this
    rw [List.replicate_succ, List.foldl_cons, roll_new ne n _ m hm]
    exact rollF_len _ _
theorem roll_olds1 (f : Int) (n : Nat) (found : List Pc) : ((oldsD f n).foldl rollF found).length ≤ found.length + 1 := by
  cases n with
  | zero => simp [oldsD, rangeI]
  | succ n =>
    have : ∃ a, (rollF found (some (f, f))).getLast? = some (.old a (some f)) := by
      simp only [rollF, if_true]
      split
      · split
        · exact ⟨_, List.getLast?_concat⟩
        · exact ⟨_, List.getLast?_concat⟩
      · exact ⟨_, List.getLast?_concat⟩
    obtain ⟨a, ha⟩ := this
    show ((some (f, f) :: oldsD (f + 1) n).foldl rollF found).length ≤ _
    rw [List.foldl_cons, roll_olds n (f + 1) _ a (by rw [ha]; congr 3; omega)]
    exact rollF_len _ _
theorem rollE_len (found : List Pc) : (rollE found).length = found.length := by
  unfold rollE
  split
  · rename_i a b h
    exact (drop_snoc h).1
  · rfl
structure RSt (t j : Nat) (rows : List (Option Lab)) (low high last : Int) : Prop where
  ex : ∃ ls : List Lab, rows = List.replicate t none ++ ls.map some ∧ ls.length ≤ 3 * j ∧ ls.Pairwise lle ∧ (∀ x ∈ ls, labOk x) ∧ (∀ x ∈ ls, x.1 ≤ low ∧ x.2 ≤ high ∧ (x.1 = x.2 → x.1 ≤ last))
  b : 0 ≤ low ∧ 0 ≤ high ∧ -1 ≤ last ∧ low ≤ 6 * j ∧ high ≤ 6 * j ∧ last ≤ 6 * j
  pc : (rows.foldl rollF []).length ≤ j + 1
theorem RSt.old {t j : Nat} {rows : List (Option Lab)} {low high last d e : Int} (h : RSt t j rows low high last) (hd : 0 ≤ d ∧ d ≤ 2) (he : 0 ≤ e ∧ e ≤ 2) {f : Int} (hf : f = max (max low high) (last + 1) + d) :
    RSt t (j + 1) (rows ++ oldsD f (e + 1).toNat) (f + e) (f + e) (f + e) := by
  obtain ⟨⟨ls, h1, h2, h3, h4, h5⟩, h6, h7⟩ := h
  refine ⟨⟨ls ++ (rangeI f (e + 1).toNat).map fun i => (i, i), ?_, ?_, ?_, ?_, ?_⟩, ?_, by rw [List.foldl_append]; have := roll_olds1 f (e + 1).toNat (rows.foldl rollF []); omega⟩
  · rw [h1]
    simp [oldsD, Function.comp_def]
  · rw [List.length_append, List.length_map, rangeI_len]
    omega
  · rw [List.pairwise_append]
    refine ⟨h3, olds_pw _ _, fun x hx y hy => ?_⟩
    obtain ⟨i, hi, rfl⟩ := List.mem_map.mp hy
    have hi := (rangeI_mem _ _ _).mp hi
    obtain ⟨a1, a2, a3⟩ := h5 x hx
    refine ⟨by show x.1 ≤ i; omega, by show x.2 ≤ i; omega, fun e1 _ => ?_⟩
    have := a3 e1
    show x.1 < i
    omega
  · intro x hx
    rcases List.mem_append.mp hx with hx | hx
    · exact h4 x hx
    · obtain ⟨i, hi, rfl⟩ := List.mem_map.mp hx
      have hi := (rangeI_mem _ _ _).mp hi
      exact ⟨by show 0 ≤ i; omega, by show i ≤ i; omega⟩
  · intro x hx
    rcases List.mem_append.mp hx with hx | hx
    · obtain ⟨a1, a2, a3⟩ := h5 x hx
      exact ⟨by omega, by omega, fun e1 => by have := a3 e1; omega⟩
    · obtain ⟨i, hi, rfl⟩ := List.mem_map.mp hx
      have hi := (rangeI_mem _ _ _).mp hi
      exact ⟨by show i ≤ _; omega, by show i ≤ _; omega, fun _ => by show i ≤ _; omega⟩
  · omega
theorem RSt.new {t j : Nat} {rows : List (Option Lab)} {low high last d e : Int} {n : Nat} (h : RSt t j rows low high last) (hd : 0 ≤ d ∧ d ≤ 2) (he : 0 ≤ e ∧ e ≤ 3) (hn : n ≤ 3) {low' high' : Int} (hl : low' = low + d) (hh : high' = max high (low' + 1) + e) :
    RSt t (j + 1) (rows ++ List.replicate n (some (low', high'))) low' high' last := by
  obtain ⟨⟨ls, h1, h2, h3, h4, h5⟩, h6, h7⟩ := h
  refine ⟨⟨ls ++ List.replicate n (low', high'), ?_, ?_, ?_, ?_, ?_⟩, ?_, by rw [List.foldl_append]; have := roll_new1 (show low' ≠ high' by omega) n (rows.foldl rollF []); omega⟩
  · rw [h1]
    simp
  · rw [List.length_append, List.length_replicate]
    omega
  · rw [List.pairwise_append]
    refine ⟨h3, ?_, fun x hx y hy => ?_⟩
    · rw [List.pairwise_replicate]
      exact .inr ⟨Int.le_refl _, Int.le_refl _, fun e1 _ => by
        have e1 : low' = high' := e1
        omega⟩
    · obtain ⟨_, rfl⟩ := List.mem_replicate.mp hy
      obtain ⟨a1, a2, a3⟩ := h5 x hx
      exact ⟨by show x.1 ≤ low'; omega, by show x.2 ≤ high'; omega, fun _ e1 => by
        have e1 : low' = high' := e1
        omega⟩
  · intro x hx
    rcases List.mem_append.mp hx with hx | hx
    · exact h4 x hx
    · obtain ⟨_, rfl⟩ := List.mem_replicate.mp hx
      exact ⟨by show 0 ≤ low'; omega, by show low' ≤ high'; omega⟩
  · intro x hx
    rcases List.mem_append.mp hx with hx | hx
    · obtain ⟨a1, a2, a3⟩ := h5 x hx
      exact ⟨by omega, by omega, a3⟩
    · obtain ⟨_, rfl⟩ := List.mem_replicate.mp hx
      exact ⟨Int.le_refl _, Int.le_refl _, fun e1 => by
        have e1 : low' = high' := e1
        omega⟩
  · omega
theorem RSt.fin {t j k : Nat} {rows : List (Option Lab)} {low high last d : Int} (h : RSt t j rows low high last) (ht : t ≤ 3) (hj : j ≤ k) (hd : 0 ≤ d ∧ d ≤ 2) {v : Int} (hv : v = max (max low high) (last + 1) + d) :
    Rows k (rows ++ oldsD v 9) := by
  obtain ⟨⟨ls, h1, h2, h3, h4, h5⟩, h6, h7⟩ := h
  refine ⟨⟨t, ls, v, by rw [h1], ht, by omega, ?_, ?_, by omega⟩, by unfold roll; rw [rollE_len, List.foldl_append]; have := roll_olds1 v 9 (rows.foldl rollF []); omega⟩
  · rw [List.pairwise_append]
    refine ⟨h3, List.pairwise_singleton _ _, fun x hx y hy => ?_⟩
    obtain rfl := List.mem_singleton.mp hy
    obtain ⟨a1, a2, a3⟩ := h5 x hx
    exact ⟨by show x.1 ≤ v; omega, by show x.2 ≤ v; omega, fun e1 _ => by
      have := a3 e1
      show x.1 < v
      omega⟩
  · intro x hx
    rcases List.mem_append.mp hx with hx | hx
    · exact h4 x hx
    · obtain rfl := List.mem_singleton.mp hx
      exact ⟨by show 0 ≤ v; omega, by show v ≤ v; omega⟩
theorem RSt.len {t j : Nat} {rows : List (Option Lab)} {low high last : Int} (h : RSt t j rows low high last) : rows.length ≤ t + 3 * j := by
  obtain ⟨⟨ls, h1, h2, _⟩, _⟩ := h
  rw [h1]
  simp
  omega
end PR
/-! MS: drawn scripts, what the law makes of rows behind them: promises. -/
namespace PR
open PySem PySem.Spec PyProof.Rows L2 DL
/-- drawn: k from lo to hi -/
theorem of_ints (is : List Int) (lo hi : Int) {Q : Sl → Prop} (h : ∀ i, lo ≤ i → i ≤ hi → Q (.v 2 (.int i))) (hn : 0 < is.length := by decide) (hl : is.length < 1073741824 := by decide) (hb : ∀ i ∈ is, lo ≤ i ∧ i ≤ hi := by decide) : C_of [.bag, .lst (is.map D.int)] Q := by
  refine ⟨?_, by simpa using hn, by simpa using hl, fun d hd => ?_⟩
  · clear hn hl hb
    induction is with
    | nil => rfl
    | cons i is ih => simpa using ih
  · obtain ⟨i, hi, rfl⟩ := List.mem_map.mp hd
    exact h i (hb i hi).1 (hb i hi).2
/-- a drawn command: ahead of row far -/
def Drawn (far : Int) : Cmd → Prop
  | .ins i n => 0 ≤ i ∧ i < far ∧ 1 ≤ n ∧ n ≤ 3
  | .del a b => 0 ≤ a ∧ a < far ∧ a ≤ b ∧ b ≤ a + 3
def C__law_command : Ctr := fun ds Q => ∃ far : Int, ds = [.bag, .int far] ∧ 9 ≤ far ∧ far < 1000000 ∧ ∀ c, Drawn far c → Q (.v 2 c.d)
def C__law_script : Ctr := fun ds Q => ∃ most : Nat, ds = [.bag, .int most] ∧ most ≤ 50 ∧ ∀ cs : List Cmd, cs.length ≤ most → (∀ c ∈ cs, Drawn 12 c) → Q (.own (cmdsD cs))
def spansL (n : Nat) : List Span := (List.range n).flatMap fun a => (List.range (n - a)).map fun k => ((a : Int), some ((a + k : Nat) : Int))
def C__law_spans : Ctr := fun ds Q => ∃ n : Nat, ds = [.int n] ∧ n ≤ 50 ∧ Q (.v 2 (.lst ((spansL n).map spanD)))
def boolRows (n : Nat) (a b : Int) : List Bool := (List.range n).map fun (k : Nat) => decide (a ≤ k) && decide ((k : Int) ≤ b)
def C__law_followed : Ctr := fun ds Q => ∃ (cs : List Cmd) (n : Nat) (a b : Int), ds = [.lst (cmdsD cs), .int n, .int a, .int b] ∧ nearAll n cs ∧ n ≤ 1000 ∧ (∀ j, j ≤ cs.length → lenAll n (cs.take j) ≤ 100000) ∧ (∀ c ∈ cs, ∀ i m, c = .ins i m → m < 1000) ∧ cs.length < 1000 ∧ Q (.v 2 (ospD (spanOf (cs.foldl stepB (boolRows n a b)))))
end PR
/-! MN: nearly the same rows, spans far away, claimed differences: promises. -/
namespace PR
open PySem PySem.Spec PyProof.Rows L2 DL
theorem seq_j {t u : DTS} {D : DEnds} {τ : DSt} (h : ∀ R : DSt → Prop, R = u D → t { D with nx := R } τ) : dSeq t u D τ := h _ rfl
def C_is_difference : Ctr := fun ds Q => ∃ (ps qs : List Pc) (s : Span), ds = [layD ps, layD qs, spanD s] ∧ Lay ps ∧ Lay qs ∧ Q (.v 2 (.bl (s.ok && decide (carF ps s ≠ carF qs s))))
def C__law_far : Ctr := fun ds Q => ds = [.bag] ∧ ∀ n : Int, 1000000 ≤ n → Q (.v 2 (.int n))
def C__law_bad_spans : Ctr := fun ds Q => ds = [.bag] ∧ ∀ s : Span, s.ok = false → Q (.v 2 (spanD s))
def C__law_changed_rows : Ctr := fun ds Q => ∃ (rows : List (Option Lab)) (v : Int), ds = [.bag, .lst (rows.map oL)] ∧ GRows rows v ∧ 8 ≤ rows.length ∧ rows.length ≤ 60 ∧ ∀ rows', Near rows rows' v → Q (.own (rows'.map oL))
def C__law_carried_due : Ctr := fun ds Q => ∃ (rows : List (Option Lab)) (v : Int) (s : Span), ds = [.lst (rows.map oL), spanD s] ∧ rows.getLast? = some (some (v, v)) ∧ rows.length < 1000 ∧ Q (.v 2 (ospD (carDue rows v s)))
def C__law_one_length : Ctr := fun ds Q => ∃ (rows rows' : List (Option Lab)) (v v' : Int), ds = [.lst (rows.map oL), .lst (rows'.map oL)] ∧ rows.getLast? = some (some (v, v)) ∧ rows'.getLast? = some (some (v', v')) ∧ rows.length < 1000 ∧ rows'.length < 1000 ∧ 0 ≤ v ∧ v < 1000 ∧ 0 ≤ v' ∧ v' < 1000 ∧
  Q (.v 2 (.tup [.lst ((rows ++ olds (v + 1) (max v v' - v).toNat).map oL), .lst ((rows' ++ olds (v' + 1) (max v v' - v').toNat).map oL)]))
@[simp] theorem eqB_osp (x y : Option Span) : eqB (ospD x) (ospD y) = decide (x = y) := by
  rw [Bool.eq_iff_iff, decide_eq_true_eq]
  cases x with
  | none => cases y with
    | none => simp [ospD]
    | some y => obtain ⟨a, b⟩ := y; simp [ospD, spanD]
  | some x =>
    obtain ⟨a, b⟩ := x
    cases y with
    | none => simp [ospD, spanD]
    | some y => obtain ⟨c, d⟩ := y; cases b <;> cases d <;> simp [ospD, spanD]
@[simp] theorem lay_osp (s : Option Span) : lay (ospD s) = true := by
  cases s with
  | none => rfl
  | some s => obtain ⟨a, b⟩ := s; cases b <;> rfl
theorem dep_osp (s : Option Span) : dep (ospD s) ≤ 1 := by
  cases s with
  | none => simp [ospD]
  | some s => obtain ⟨a, b⟩ := s; cases b <;> simp [ospD, spanD]
@[simp] theorem dep_osp64 (s : Option Span) : dep (ospD s) ≤ 64 := by have := dep_osp s; omega
end PR
/-! MWk: scripts walked over lists of labels, drawn items that are no commands: promises. -/
namespace PR
open PySem PySem.Spec PyProof.Rows L2 DL
def C__law_step : Ctr := fun ds Q => ∃ (rows : List (Option Lab)) (c : Cmd), ds = [.lst (rows.map oL), c.d] ∧ c.near rows.length ∧ rows.Pairwise ole ∧ rows.length ≤ 100000 ∧ (∀ i m, c = .ins i m → m < 1000) ∧ Q (.own ((stepR rows c).map oL))
def C__law_walk : Ctr := fun ds Q => ∃ (cs : List Cmd) (n : Nat), ds = [.lst (cmdsD cs), .int n] ∧ nearAll n cs ∧ 1 ≤ n ∧ n ≤ 1000 ∧ (∀ j, j ≤ cs.length → lenAll n (cs.take j) ≤ 100000) ∧ (∀ c ∈ cs, ∀ i m, c = .ins i m → m < 1000) ∧ Q (.v 2 (.lst ((cs.foldl stepR (olds 0 n)).map oL)))
def C__law_is_layout : Ctr := fun ds Q => ∃ (rows : List (Option Lab)) (ps : List Pc) (v : Int), ds = [layD ps, .lst (rows.map oL)] ∧ Lays rows ps v ∧ rows.length < 1000 ∧ ps.length < 1000 ∧ Q (.v 2 (.bl true))
def oI : Option Nat → D
  | none => .non
  | some k => .int k
def C__law_due_command : Ctr := fun ds Q => ∃ its : List Itm, ds = [.lst (itsD its)] ∧ its.length < 1000 ∧ Q (.v 2 (oI (badIt 0 its)))
def C__law_odd_command : Ctr := fun ds Q => ds = [.bag] ∧ ∀ it : Itm, it.ok = false → Q (.v 2 it.d)
def C2__law_of : Ctr := fun ds Q => match ds with
  | [.bag, .lst es] => 0 < es.length ∧ es.length < 1073741824 ∧ ∀ d ∈ es, Q (.v 2 d)
  | _ => False
/-! plain facts -/
end PR
/-! MTs: texts of scripts: promises. -/
namespace PR
open PySem PySem.Spec PyProof.Rows L2 DL
abbrev eBadText (k : Int) : Er := mkEr "BadText" ["at"] [.int k]
theorem ok_badtext (k : Int) : okEr (eBadText k) := okEr_1 rfl
def C_command_in : Ctr := fun ds Q => ∃ l : Str, ds = [.str l] ∧ PyData.strOk l = true ∧ l.length ≤ 9000 ∧ Q (.v 2 (cmdD (lineF l)))
def X_parse_script : CtrX := fun ds Q R => ∃ t : Str, ds = [.str t] ∧ PyData.strOk t = true ∧ t.length ≤ 9000 ∧ (∀ cs, parseF t = .inl cs → Q (.own (cmdsD cs))) ∧ ∀ k : Nat, parseF t = .inr k → R (eBadText k)
def C_parse_script : Ctr := fun ds Q => ∃ (t : Str) (cs : List Cmd), ds = [.str t] ∧ PyData.strOk t = true ∧ t.length ≤ 9000 ∧ parseF t = .inl cs ∧ Q (.own (cmdsD cs))
def X_script_text : CtrX := fun ds Q R => ∃ (its : List Itm) (tu : Bool), ds = [seqOf tu (itsD its)] ∧ its.length ≤ 1000 ∧ (∀ c, Itm.cmd c ∈ its → c.ok = true → SmC c) ∧ (∀ k : Nat, badIt 0 its = some k → R (eBadCommand k)) ∧ (∀ cs : List Cmd, its = cs.map Itm.cmd → (∀ c ∈ cs, c.ok = true) → Q (.v 2 (.str (scrT cs))))
def C_script_text : Ctr := fun ds Q => ∃ (cs : List Cmd) (tu : Bool), ds = [seqOf tu (cmdsD cs)] ∧ cs.length ≤ 1000 ∧ (∀ c ∈ cs, c.ok = true ∧ SmC c) ∧ Q (.v 2 (.str (scrT cs)))
theorem calm_parse_script : ∀ ds Q, C_parse_script ds Q → X_parse_script ds Q fun _ => False := fun ds Q ⟨t, cs, e, h1, h2, h3, q⟩ => ⟨t, e, h1, h2, fun cs' z => (by rw [h3] at z; cases z; exact q), fun k z => (by rw [h3] at z; cases z)⟩
theorem calm_script_text : ∀ ds Q, C_script_text ds Q → X_script_text ds Q fun _ => False := fun ds Q ⟨cs, tu, e, h1, h2, q⟩ => ⟨cs.map .cmd, tu, by rw [itsD_cmds]; exact e, by simpa using h1, fun c hc _ => (by
    obtain ⟨d, hd, z⟩ := List.mem_map.mp hc
    injection z with z
    rw [← z]
    exact (h2 d hd).2), fun k z => (by rw [badIt_ok cs 0 fun c hc => (h2 c hc).1] at z; cases z), fun cs' e' _ => (by rw [← cmd_inj e']; exact q)⟩
def C__law_plain_number : Ctr := fun ds Q => ∃ w : Str, ds = [.str w] ∧ PyData.strOk w = true ∧ w.length ≤ 100000 ∧ Q (.v 2 (oD (numF w)))
def dueD : List Cmd ⊕ Nat → D
  | .inl cs => .tup [.str "told", .lst (cmdsD cs)]
  | .inr k => .tup [.str "BadText", .int (k : Nat)]
def C__law_lines_due : Ctr := fun ds Q => ∃ t : Str, ds = [.str t] ∧ PyData.strOk t = true ∧ t.length ≤ 9000 ∧ Q (.v 2 (dueD (parseF t)))
def C__law_bent_text : Ctr := fun ds Q => ∃ (t : Str) (ss : List Str), ds = [.bag, .str t, .lst (ss.map .str)] ∧ ss ≠ [] ∧ ss.length ≤ 100 ∧ (∀ s ∈ ss, PyData.strOk s = true ∧ s.length ≤ 11) ∧ PyData.strOk t = true ∧ t.length ≤ 8000 ∧ ∀ u : Str, PyData.strOk u = true → u.length ≤ t.length + 11 → Q (.v 2 (.str u))
end PR
/-! TTs: texts of scripts: readings (printed by mkt.py). -/
namespace PR
open PySem PySem.Spec PyProof.Rows L2 DL
abbrev N_command_in : List Str := ["line", "word", "rest", "numbers", "command"]
abbrev P_command_in : List Str := ["line"]
def t_command_in : DTS := (dSeq (dAsg (dSplit (dVar 0) (dK (.str " "))) (gStar2L 1 2)) (dSeq (dSet 3 (dCall C_numbers_in [] (aCons (dVar 2) aNil))) (dSeq (dIf (tvOr (tV (dIsN (dVar 3))) (tV (dOp fNe (dCB fLen (aCons (dVar 3) aNil)) (dK (.int 2))))) (dRet (dK .non)) dNext) (dSeq (dSet 4 (dTup (aCons (dVar 1) (aStar (dVar 3) aNil)))) (dRet (dIfE (tV (dCall C_is_command [] (aCons (dVar 4) aNil))) (dVar 4) (dK .non)))))))
abbrev N_parse_script : List Str := ["text", "lines", "last", "found", "at", "line", "command"]
abbrev P_parse_script : List Str := ["text"]
def lbx1_parse_script : DTS := (dSeq (dSet 6 (dCall C_command_in [] (aCons (dVar 5) aNil))) (dSeq (dIf (tV (dIsN (dVar 6))) (dRaise "BadText" ["at"] (aCons (dVar 4) aNil)) dNext) (dApp 3 (dVar 6))))
theorem lbx1_parse_script_e (E : DEnds) (τ : DSt) : lbx1_parse_script E τ = (dSeq (dSet 6 (dCall C_command_in [] (aCons (dVar 5) aNil))) (dSeq (dIf (tV (dIsN (dVar 6))) (dRaise "BadText" ["at"] (aCons (dVar 4) aNil)) dNext) (dApp 3 (dVar 6)))) E τ := rfl
def tx_parse_script : DTS := (dSeq (dAsg (dSplit (dVar 0) (dK (.str "\n"))) (gStarF 1 2)) (dSeq (dSetO 3 (dLst aNil)) (dSeq (dForE (aCons (dVar 1) aNil) (gT 2 (gsCons (gN 4) (gsCons (gN 5) gsNil))) lbx1_parse_script) (dSeq (dIf (tV (dOp fNe (dVar 2) (dK (.str "")))) (dRaise "BadText" ["at"] (aCons (dCB fLen (aCons (dVar 1) aNil)) aNil)) dNext) (dRetOwn 3)))))
abbrev N_script_text : List Str := ["script", "word", "one", "other"]
abbrev P_script_text : List Str := ["script"]
def lex1_script_text : DTE := (dJs [(dFmt (dVar 1)), (dK (.str " ")), (dFmt (dVar 2)), (dK (.str " ")), (dFmt (dVar 3)), (dK (.str "\n"))])
theorem lex1_script_text_e (τ : DSt) (Q : Sl → Prop) : lex1_script_text τ Q = (dJs [(dFmt (dVar 1)), (dK (.str " ")), (dFmt (dVar 2)), (dK (.str " ")), (dFmt (dVar 3)), (dK (.str "\n"))]) τ Q := rfl
def tx_script_text : DTS := (dSeq (dDropX (dCallX X_check_script [] (aCons (dVar 0) aNil))) (dRet (dJoin (dK (.str "")) (dLc (dVar 0) (gT 3 (gsCons (gN 1) (gsCons (gN 2) (gsCons (gN 3) gsNil)))) tYesD lex1_script_text [1, 2, 3]))))
abbrev N__law_plain_number : List Str := ["_law_word", "_law_char"]
abbrev P__law_plain_number : List Str := ["_law_word"]
def le1__law_plain_number : DTE := (dOp fInS (dVar 1) (dK (.str "0123456789")))
theorem le1__law_plain_number_e (τ : DSt) (Q : Sl → Prop) : le1__law_plain_number τ Q = (dOp fInS (dVar 1) (dK (.str "0123456789"))) τ Q := rfl
def t__law_plain_number : DTS := (dSeq (dIf (tvOr (tV (dOp fEq (dVar 0) (dK (.str "")))) (tvOr (tV (dOp fGt (dCB fLenS (aCons (dVar 0) aNil)) (dK (.int 18)))) (tvNot (tV (dCB fAll (aCons (dLcS (dVar 0) (gN 1) tYesD le1__law_plain_number [1]) aNil)))))) (dRet (dK .non)) dNext) (dRet (dIfE (tvAnd (tV (dOp fEq (dOp fIxS (dVar 0) (dK (.int 0))) (dK (.str "0")))) (tV (dOp fGt (dCB fLenS (aCons (dVar 0) aNil)) (dK (.int 1))))) (dK .non) (dCB fIntS (aCons (dVar 0) aNil)))))
abbrev N__law_lines_due : List Str := ["_law_text", "_law_lines", "_law_found", "_law_k", "_law_words", "_law_numbers", "_law_command_here", "_law_word"]
abbrev P__law_lines_due : List Str := ["_law_text"]
def le1__law_lines_due : DTE := (dCall C__law_plain_number [] (aCons (dVar 7) aNil))
theorem le1__law_lines_due_e (τ : DSt) (Q : Sl → Prop) : le1__law_lines_due τ Q = (dCall C__law_plain_number [] (aCons (dVar 7) aNil)) τ Q := rfl
def lb2__law_lines_due : DTS := (dSeq (dSet 4 (dSplit (dOp fIx (dVar 1) (dVar 3)) (dK (.str " ")))) (dSeq (dSet 5 (dLc (dSl (dVar 4) (oSome (dK (.int 1))) oNone) (gN 7) tYesD le1__law_lines_due [7])) (dSeq (dIf (tvOr (tV (dOp fNe (dCB fLen (aCons (dVar 4) aNil)) (dK (.int 3)))) (tV (dOp fIn (dK .non) (dVar 5)))) (dRet (dTup (aCons (dK (.str "BadText")) (aCons (dVar 3) aNil)))) dNext) (dSeq (dSet 6 (dTup (aCons (dIxK 0 (dVar 4)) (aCons (dIxK 0 (dVar 5)) (aCons (dIxK 1 (dVar 5)) aNil))))) (dSeq (dIf (tV (dNotN (dCall C__law_due_command [] (aCons (dLst (aCons (dVar 6) aNil)) aNil)))) (dRet (dTup (aCons (dK (.str "BadText")) (aCons (dVar 3) aNil)))) dNext) (dApp 2 (dVar 6)))))))
theorem lb2__law_lines_due_e (E : DEnds) (τ : DSt) : lb2__law_lines_due E τ = (dSeq (dSet 4 (dSplit (dOp fIx (dVar 1) (dVar 3)) (dK (.str " ")))) (dSeq (dSet 5 (dLc (dSl (dVar 4) (oSome (dK (.int 1))) oNone) (gN 7) tYesD le1__law_lines_due [7])) (dSeq (dIf (tvOr (tV (dOp fNe (dCB fLen (aCons (dVar 4) aNil)) (dK (.int 3)))) (tV (dOp fIn (dK .non) (dVar 5)))) (dRet (dTup (aCons (dK (.str "BadText")) (aCons (dVar 3) aNil)))) dNext) (dSeq (dSet 6 (dTup (aCons (dIxK 0 (dVar 4)) (aCons (dIxK 0 (dVar 5)) (aCons (dIxK 1 (dVar 5)) aNil))))) (dSeq (dIf (tV (dNotN (dCall C__law_due_command [] (aCons (dLst (aCons (dVar 6) aNil)) aNil)))) (dRet (dTup (aCons (dK (.str "BadText")) (aCons (dVar 3) aNil)))) dNext) (dApp 2 (dVar 6))))))) E τ := rfl
def t__law_lines_due : DTS := (dSeq (dSet 1 (dSplit (dVar 0) (dK (.str "\n")))) (dSeq (dSetO 2 (dLst aNil)) (dSeq (dForR (aCons (dOp fSub (dCB fLen (aCons (dVar 1) aNil)) (dK (.int 1))) aNil) (gN 3) lb2__law_lines_due) (dFrz 2 (dRet (dIfE (tV (dOp fEq (dIxL (dVar 1)) (dK (.str "")))) (dTup (aCons (dK (.str "told")) (aCons (dVar 2) aNil))) (dTup (aCons (dK (.str "BadText")) (aCons (dOp fSub (dCB fLen (aCons (dVar 1) aNil)) (dK (.int 1))) aNil)))))))))
abbrev N__law_bent_text : List Str := ["_law_bag_here", "_law_text", "_law_signs", "_law_at"]
abbrev P__law_bent_text : List Str := ["_law_bag_here", "_law_text", "_law_signs"]
def t__law_bent_text : DTS := (dSeq (dSet 3 (dCall C__law_pull [] (aCons (dVar 0) (aCons (dOp fAdd (dCB fLenS (aCons (dVar 1) aNil)) (dK (.int 1))) aNil)))) (dSeq (dIf (tV (dOp fEq (dCall C__law_pull [] (aCons (dVar 0) (aCons (dK (.int 8)) aNil))) (dK (.int 0)))) (dRet (dSl (dVar 1) oNone (oSome (dVar 3)))) dNext) (dRet (dOp fAdd (dOp fAdd (dSl (dVar 1) oNone (oSome (dVar 3))) (dCall C__law_of [] (aCons (dVar 0) (aCons (dVar 2) aNil)))) (dSl (dVar 1) (oSome (dOp fAdd (dVar 3) (dCall C__law_pull [] (aCons (dVar 0) (aCons (dK (.int 2)) aNil))))) oNone)))))
end PR
/-! TTx: texts of layouts: readings (printed by mkt.py). -/
namespace PR
open PySem PySem.Spec PyProof.Rows L2 DL
abbrev N_number_in : List Str := ["word", "char"]
abbrev P_number_in : List Str := ["word"]
def le1_number_in : DTE := (dOp fInS (dVar 1) (dK (.str "0123456789")))
theorem le1_number_in_e (τ : DSt) (Q : Sl → Prop) : le1_number_in τ Q = (dOp fInS (dVar 1) (dK (.str "0123456789"))) τ Q := rfl
def t_number_in : DTS := (dSeq (dIf (tvOr (tvNot (tV (dChain pLe pLe (dK (.int 1)) (dCB fLenS (aCons (dVar 0) aNil)) (dK (.int 18))))) (tvNot (tV (dCB fAll (aCons (dLcS (dVar 0) (gN 1) tYesD le1_number_in [1]) aNil))))) (dRet (dK .non)) dNext) (dRet (dIfE (tvAnd (tV (dOp fEq (dOp fIxS (dVar 0) (dK (.int 0))) (dK (.str "0")))) (tV (dOp fNe (dVar 0) (dK (.str "0"))))) (dK .non) (dCB fIntS (aCons (dVar 0) aNil)))))
abbrev N_numbers_in : List Str := ["words", "found", "word"]
abbrev P_numbers_in : List Str := ["words"]
def le1_numbers_in : DTE := (dCall C_number_in [] (aCons (dVar 2) aNil))
theorem le1_numbers_in_e (τ : DSt) (Q : Sl → Prop) : le1_numbers_in τ Q = (dCall C_number_in [] (aCons (dVar 2) aNil)) τ Q := rfl
def t_numbers_in : DTS := (dSeq (dSet 1 (dLc (dVar 0) (gN 2) tYesD le1_numbers_in [2])) (dRet (dIfE (tV (dOp fIn (dK .non) (dVar 1))) (dK .non) (dVar 1))))
abbrev N_old_piece : List Str := ["word", "first", "dash", "last", "found"]
abbrev P_old_piece : List Str := ["word"]
def t_old_piece : DTS := (dSeq (dAsg (dPart (dVar 0) (dK (.str "-"))) (gT 3 (gsCons (gN 1) (gsCons (gN 2) (gsCons (gN 3) gsNil))))) (dSeq (dIf (tvOr (tV (dOp fEq (dVar 2) (dK (.str "")))) (tV (dOp fEq (dVar 3) (dK (.str ""))))) (dSeq (dSet 4 (dCall C_numbers_in [] (aCons (dLst (aCons (dVar 1) aNil)) aNil))) (dRet (dIfE (tV (dIsN (dVar 4))) (dK .non) (dTup (aCons (dK (.str "old")) (aCons (dIxK 0 (dVar 4)) (aCons (dIfE (tV (dOp fEq (dVar 2) (dK (.str "-")))) (dK .non) (dIxK 0 (dVar 4))) aNil))))))) dNext) (dSeq (dSet 4 (dCall C_numbers_in [] (aCons (dLst (aCons (dVar 1) (aCons (dVar 3) aNil))) aNil))) (dRet (dIfE (tV (dIsN (dVar 4))) (dK .non) (dTup (aCons (dK (.str "old")) (aCons (dIxK 0 (dVar 4)) (aCons (dIxK 1 (dVar 4)) aNil)))))))))
abbrev N_piece_text : List Str := ["piece", "count", "first", "last", "low", "high"]
abbrev P_piece_text : List Str := ["piece"]
def t_piece_text : DTS := (dMatch (dVar 0) [⟨(.seq [(.val "top"), (.cap (some "count"))]), [1], (dRet (dJs [(dK (.str "top ")), (dFmt (dVar 1))]))⟩, ⟨(.seq [(.val "old"), (.cap (some "first")), .non]), [2], (dRet (dJs [(dK (.str "old ")), (dFmt (dVar 2)), (dK (.str "-"))]))⟩, ⟨(.seq [(.val "old"), (.cap (some "first")), (.cap (some "last"))]), [2, 3], (dRet (dIfE (tV (dOp fEq (dVar 2) (dVar 3))) (dJs [(dK (.str "old ")), (dFmt (dVar 2))]) (dJs [(dK (.str "old ")), (dFmt (dVar 2)), (dK (.str "-")), (dFmt (dVar 3))])))⟩, ⟨(.seq [(.cap none), (.cap (some "low")), (.cap (some "high")), (.cap (some "count"))]), [4, 5, 1], (dRet (dJs [(dK (.str "new ")), (dFmt (dVar 4)), (dK (.str "-")), (dFmt (dVar 5)), (dK (.str " x")), (dFmt (dVar 1))]))⟩])
abbrev N_piece_in : List Str := ["text", "piece", "found", "word", "label", "count"]
abbrev P_piece_in : List Str := ["text"]
def t_piece_in : DTS := (dSeq (dSet 1 (dK .non)) (dSeq (dMatch (dSplit (dVar 0) (dK (.str " "))) [⟨(.seq [(.val "top"), (.cap (some "word"))]), [3], (dSeq (dSet 2 (dCall C_numbers_in [] (aCons (dLst (aCons (dVar 3) aNil)) aNil))) (dSet 1 (dIfE (tV (dIsN (dVar 2))) (dK .non) (dTup (aCons (dK (.str "top")) (aCons (dIxK 0 (dVar 2)) aNil))))))⟩, ⟨(.seq [(.val "old"), (.cap (some "word"))]), [3], (dSet 1 (dCall C_old_piece [] (aCons (dVar 3) aNil)))⟩, ⟨(.seq [(.val "new"), (.cap (some "label")), (.cap (some "count"))]), [4, 5], dThen (tV (dOp fEq (dSl (dVar 5) oNone (oSome (dK (.int 1)))) (dK (.str "x")))) (dSeq (dSet 2 (dCall C_numbers_in [] (aCons (dOp fAdd (dSplit (dVar 4) (dK (.str "-"))) (dLst (aCons (dSl (dVar 5) (oSome (dK (.int 1))) oNone) aNil))) aNil))) (dSet 1 (dIfE (tvAnd (tV (dNotN (dVar 2))) (tV (dOp fEq (dCB fLen (aCons (dVar 2) aNil)) (dK (.int 3))))) (dTup (aCons (dK (.str "new")) (aStar (dVar 2) aNil))) (dK .non))))⟩]) (dRet (dIfE (tvAnd (tV (dNotN (dVar 1))) (tV (dOp fEq (dCall C_piece_text [] (aCons (dVar 1) aNil)) (dVar 0)))) (dVar 1) (dK .non)))))
abbrev N_pieces_in : List Str := ["text", "found", "at", "part", "piece"]
abbrev P_pieces_in : List Str := ["text"]
def lb1_pieces_in : DTS := (dSeq (dSet 4 (dCall C_piece_in [] (aCons (dVar 3) aNil))) (dSeq (dIf (tV (dIsN (dVar 4))) dNever dNext) (dApp 1 (dVar 4))))
def t_pieces_in : DTS := (dSeq (dSetO 1 (dLst aNil)) (dSeq (dForE (aCons (dSplit (dVar 0) (dK (.str "; "))) aNil) (gT 2 (gsCons (gN 2) (gsCons (gN 3) gsNil))) lb1_pieces_in) (dRetOwn 1)))
abbrev N_Layout_read : List Str := ["cls", "text", "pieces", "at", "piece", "found", "e"]
abbrev P_Layout_read : List Str := ["cls", "text"]
def lb1_Layout_read : DTS := (dIf (tvOr (tV (dOp fGe (dVar 3) (dCB (fLenO 0 C_Layout___len__) (aCons (dVar 5) aNil)))) (tV (dOp fNe (dOp fIx (dMeth 0 C_Layout_pieces [] (dVar 5) aNil) (dVar 3)) (dVar 4)))) dNever dNext)
def t_Layout_read : DTS := (dSeq (dSet 2 (dCall C_pieces_in [] (aCons (dVar 1) aNil))) (dSeq (dSet 5 (dMakeL 0 0 C_Layout___init__ [] (aCons (dVar 2) aNil))) (dSeq (dForE (aCons (dVar 2) aNil) (gT 2 (gsCons (gN 3) (gsCons (gN 4) gsNil))) lb1_Layout_read) (dRet (dVar 5)))))
abbrev N_Layout___str__ : List Str := ["self", "piece"]
abbrev P_Layout___str__ : List Str := ["self"]
def le1_Layout___str__ : DTE := (dCall C_piece_text [] (aCons (dVar 1) aNil))
def t_Layout___str__ : DTS := (dRet (dJoin (dK (.str "; ")) (dLc (dFld 0 0 (dVar 0)) (gN 1) tYesD le1_Layout___str__ [1])))
abbrev N_layout_text : List Str := ["layout"]
abbrev P_layout_text : List Str := ["layout"]
def t_layout_text : DTS := (dRet (dCB (fRepO 0 C_Layout___str__) (aCons (dVar 0) aNil)))
abbrev N__law_piece_text : List Str := ["_law_piece"]
abbrev P__law_piece_text : List Str := ["_law_piece"]
def t__law_piece_text : DTS := (dSeq (dIf (tV (dOp fEq (dIxK 0 (dVar 0)) (dK (.str "top")))) (dRet (dOp fAdd (dK (.str "top ")) (dCB fStrI (aCons (dIxK 1 (dVar 0)) aNil)))) dNext) (dSeq (dIf (tV (dOp fEq (dIxK 0 (dVar 0)) (dK (.str "new")))) (dRet (dOp fAdd (dOp fAdd (dOp fAdd (dOp fAdd (dOp fAdd (dK (.str "new ")) (dCB fStrI (aCons (dIxK 1 (dVar 0)) aNil))) (dK (.str "-"))) (dCB fStrI (aCons (dIxK 2 (dVar 0)) aNil))) (dK (.str " x"))) (dCB fStrI (aCons (dIxK 3 (dVar 0)) aNil)))) dNext) (dSeq (dIf (tV (dIsN (dIxK 2 (dVar 0)))) (dRet (dOp fAdd (dOp fAdd (dK (.str "old ")) (dCB fStrI (aCons (dIxK 1 (dVar 0)) aNil))) (dK (.str "-")))) dNext) (dRet (dOp fAdd (dOp fAdd (dK (.str "old ")) (dCB fStrI (aCons (dIxK 1 (dVar 0)) aNil))) (dIfE (tV (dOp fEq (dIxK 1 (dVar 0)) (dIxK 2 (dVar 0)))) (dK (.str "")) (dOp fAdd (dK (.str "-")) (dCB fStrI (aCons (dIxK 2 (dVar 0)) aNil)))))))))
abbrev N__law_layout_text : List Str := ["_law_pieces", "_law_piece"]
abbrev P__law_layout_text : List Str := ["_law_pieces"]
def le1__law_layout_text : DTE := (dCall C__law_piece_text [] (aCons (dVar 1) aNil))
def t__law_layout_text : DTS := (dRet (dJoin (dK (.str "; ")) (dLc (dVar 0) (gN 1) tYesD le1__law_layout_text [1])))
end PR
/-! TE: own == and len of layouts: readings (printed by mkt.py). -/
namespace PR
open PySem PySem.Spec PyProof.Rows L2 DL
abbrev N_Layout___eq__ : List Str := ["self", "other"]
abbrev P_Layout___eq__ : List Str := ["self", "other"]
def t_Layout___eq__ : DTS := (dRet (vAnd (dIsW 0 (dVar 1)) (dOp fEq (dFld 0 0 (dVar 0)) (dFld 0 0 (dVar 1)))))
abbrev N_Layout___len__ : List Str := ["self"]
abbrev P_Layout___len__ : List Str := ["self"]
def t_Layout___len__ : DTS := (dRet (dCB fLen (aCons (dFld 0 0 (dVar 0)) aNil)))
end PR
/-! PE1: own == and len of layouts. -/
namespace PR
open PySem PySem.Spec PyProof.Rows L2 DL
section
variable {Q : Sl → Prop}
end
end PR
/-! PL4: the rows are drawn. -/
namespace PR
open PySem PySem.Spec PyProof.Rows L2 DL
end PR
/-! ML3: the layout of rows. -/
namespace PR
open PySem PySem.Spec PyProof.Rows L2 DL
end PR
/-! PL5: the law's breaks. -/
namespace PR
open PySem PySem.Spec PyProof.Rows L2 DL
def pairsR : Option Lab → List Lab → List (Option Lab × Lab)
  | _, [] => []
  | b, a :: ls => (b, a) :: pairsR (some a) ls
end PR
/-! PTx: texts of layouts: plain proofs. -/
namespace PR
open PySem PySem.Spec PyProof.Rows L2 DL SX TL
theorem sm_nat {n : Int} (h : Sm n) : ∃ k : Nat, n = (k : Int) ∧ k < 10 ^ 18 := by
  obtain ⟨h1, h2⟩ := h
  exact ⟨n.toNat, by omega, by omega⟩
theorem sm_log {n : Int} (h : Sm n) : n.natAbs.log2 < 1920 := log_ok (by
  obtain ⟨h1, h2⟩ := h
  have : (1000000000000000000 : Nat) ≤ 2 ^ 200 := by decide
  omega)
theorem numL_18 {k : Nat} (hk : k < 10 ^ 18) : 1 ≤ (numL k).length ∧ (numL k).length ≤ 18 := ⟨List.length_pos_iff.mpr (numL_ne k), numL_len (by decide) hk⟩
theorem numL_head {k : Nat} : ∀ (c : Nat) (r : List Nat), numL k = c :: r → (c = 48 → k = 0) := by
  induction k using Nat.strongRecOn with
  | _ k ih =>
    intro c r e hc
    by_cases h : k < 10
    · rw [numL_lt h] at e
      have := (List.cons.inj e).1
      omega
    · rw [numL_step (by omega)] at e
      cases e2 : numL (k / 10) with
      | nil => exact absurd e2 (numL_ne _)
      | cons d t =>
        rw [e2] at e
        have := (List.cons.inj e).1
        have := ih (k / 10) (by omega) d t e2 (by omega)
        omega
theorem digit_in {c : Nat} : c ∈ ("0123456789" : Str).cps ↔ 48 ≤ c ∧ c ≤ 57 := by
  have e : ("0123456789" : Str).cps = #[48, 49, 50, 51, 52, 53, 54, 55, 56, 57] := by decide +kernel
  rw [e]
  simp
  omega
theorem bools_map (p : Nat → Bool) : ∀ l : List Nat, bools (l.map fun c => D.bl (p c)) = some (l.map p)
  | [] => rfl
  | x :: l => by simp [bools, bools_map p l]
theorem all_digits (l : List Nat) : (l.map fun c => decide (c ∈ ("0123456789" : Str).cps)).all id = l.all fun c => decide (48 ≤ c) && decide (c ≤ 57) := by
  induction l with
  | nil => rfl
  | cons x l ih =>
    have e : decide (x ∈ ("0123456789" : Str).cps) = (decide (48 ≤ x) && decide (x ≤ 57)) := by
      rw [Bool.eq_iff_iff]
      simp [digit_in]
    simp only [List.map_cons, List.all_cons, ih, id, e]
theorem zero_str : ("0" : Str) = ⟨#[48]⟩ := by decide +kernel
theorem one_zero {w : Str} {r : List Nat} (e : TL.tl w = 48 :: r) : w = ("0" : Str) ↔ ¬ 1 < w.length := by
  rw [len_tl, e]
  constructor
  · intro h
    subst h
    rw [zero_str] at e
    have e : [48] = 48 :: r := e
    cases e
    simp
  · intro h
    have : r = [] := by
      cases r with
      | nil => rfl
      | cons x r => simp at h
    subst this
    refine ext_tl ?_
    rw [e, zero_str]
theorem all_dig {w : Str} (h : (tl w).all (fun c => decide (48 ≤ c) && decide (c ≤ 57)) = true) : NumText.AllDigits (tl w) := fun c hc => by
  have := List.all_eq_true.mp h c hc
  simpa using this
theorem pure_number_in : Pure C_number_in t_number_in N_number_in := by
  rintro ds QD ⟨w, rfl, hw, hl, q⟩
  unfold t_number_in
  refine seq_j fun R hR => ?_
  simp
  refine ⟨by omega, ?_⟩
  have e0 : (((w.length : Nat)) : Int) = ((tl w).length : Int) := by rw [len_tl]
  by_cases h1 : 1 ≤ w.length
  · by_cases h2 : w.length ≤ 18
    · rw [if_pos (by omega), if_neg (by omega)]
      have es : signsD w = (tl w).map fun c => D.str ⟨#[c]⟩ := rfl
      rw [es]
      refine comp_map (fun c => D.str ⟨#[c]⟩) (fun c => some (.bl (decide (c ∈ ("0123456789" : Str).cps)))) (by rw [← len_tl]; omega) (fun c hc acc C ha hC => ?_) ?_
      · simp [le1_number_in_e, ha]
        simpa using hC
      · rw [List.filterMap_eq_map']
        simp only []
        rw [bools_map]
        have ea := all_digits (tl w)
        by_cases ad : (tl w).all (fun c => decide (48 ≤ c) && decide (c ≤ 57)) = true
        · have hin : ¬ false ∈ (tl w).map fun c => decide (c ∈ ("0123456789" : Str).cps) := fun z => by
            rw [ad] at ea
            have := List.all_eq_true.mp ea false z
            cases this
          simp only []
          rw [if_neg hin]
          subst hR
          simp
          refine ⟨by omega, ?_⟩
          have dg := all_dig ad
          cases eN : tl w with
          | nil =>
            rw [len_tl, eN] at h1
            simp at h1
          | cons c r =>
            have hd := dg c (by rw [eN]; simp)
            have s1 : PyData.strOk ⟨#[c]⟩ = true := by
              unfold PyData.strOk
              simp
              omega
            have hi : intText? w = some ((NumText.digitsVal (tl w) : Nat) : Int) := intText_digits dg (by rw [show w.cps.toList = c :: r from eN]; simp) (by omega)
            refine ⟨c, by rw [show w.cps.toList = c :: r from eN]; exact atI_at (by decide) rfl, s1, ?_⟩
            have hf : numF w = if c = 48 ∧ 1 < w.length then none else some ((NumText.digitsVal (tl w) : Nat) : Int) := by
              unfold numF
              rw [if_pos ⟨h1, h2, ad⟩, eN]
              simp
            have fin : ¬ (c = 48 ∧ 1 < w.length) → (∃ n, intText? w = some n ∧ w.length ≤ 640 ∧ QD (Sl.v 2 (D.int n))) := fun z => by
              rw [hf, if_neg z] at q
              exact ⟨_, hi, by omega, q⟩
            have ec : ({ cps := #[c] } : Str) = ("0" : Str) ↔ c = 48 := by
              rw [zero_str]
              simp
            by_cases h0 : c = 48
            · subst h0
              rw [if_pos (ec.mpr rfl)]
              have := one_zero eN
              by_cases hz : w = ("0" : Str)
              · have := this.mp hz
                simp [hw, hz]
                rw [← hz]
                exact fin fun z => this z.2
              · have h9 : 1 < w.length := Decidable.not_not.mp fun z => hz (this.mpr z)
                simp [hw, hz]
                rw [hf, if_pos ⟨rfl, h9⟩] at q
                exact q
            · rw [if_neg fun z => h0 (ec.mp z)]
              exact fin fun z => h0 z.1
        · have hin : false ∈ (tl w).map fun c => decide (c ∈ ("0123456789" : Str).cps) := Decidable.not_not.mp fun z => ad (by
            rw [← ea, List.all_eq_true]
            intro x hx
            cases x with
            | true => rfl
            | false => exact absurd hx z)
          simp only []
          rw [if_pos hin]
          have hf : numF w = none := by
            unfold numF
            rw [if_neg fun z => ad z.2.2]
          rw [hf] at q
          exact q
    · rw [if_pos (by omega), if_pos (by omega)]
      have hf : numF w = none := by
        unfold numF
        rw [if_neg fun z => h2 z.2.1]
      rw [hf] at q
      exact q
  · rw [if_neg (by omega)]
    have hf : numF w = none := by
      unfold numF
      rw [if_neg fun z => h1 z.1]
    rw [hf] at q
    exact q
theorem numF_num {n : Int} (h : Sm n) : numF (numS n) = some n := by
  obtain ⟨k, rfl, hk⟩ := sm_nat h
  obtain ⟨l1, l2⟩ := numL_18 hk
  have et : tl (numS (k : Int)) = numL k := by rw [numS_nat]
  have e0 : (numS (k : Int)).length = (numL k).length := by rw [numS_nat, S_len]
  unfold numF
  rw [e0, et, if_pos ⟨l1, l2, List.all_eq_true.mpr fun c hc => by
    have := numL_digits k c hc
    simp
    omega⟩, numL_val]
  rw [if_neg]
  rintro ⟨h1, h2⟩
  cases e : numL k with
  | nil => rw [e] at h1; cases h1
  | cons c r =>
    rw [e] at h1 h2
    have : k = 0 := numL_head c r e (by simpa using h1)
    subst this
    have : numL 0 = [48] := numL_lt (by decide)
    rw [this] at e
    cases e
    simp at h2
theorem numsF_map {ns : List Int} (h : ∀ n ∈ ns, Sm n) : numsF (ns.map numS) = some ns := by
  induction ns with
  | nil => rfl
  | cons n ns ih =>
    simp only [List.map_cons, numsF, numF_num (h n (by simp)), ih fun m hm => h m (by simp [hm])]
theorem lks_oD (f : Str → Option Int) (ws : List Str) : lays (ws.map fun w => oD (f w)) = true ∧ deps (ws.map fun w => oD (f w)) ≤ 63 := by
  induction ws with
  | nil => exact ⟨rfl, by simp⟩
  | cons w ws ih =>
    cases e : f w with
    | none => simpa [oD, e] using ih
    | some n => simpa [oD, e] using ih
theorem any_non (f : Str → Option Int) (ws : List Str) : ((ws.map fun w => oD (f w)).any fun z => eqB z .non) = ws.any fun w => (f w).isNone := by
  induction ws with
  | nil => rfl
  | cons w ws ih =>
    have e : eqB (oD (f w)) .non = (f w).isNone := by
      cases f w <;> rfl
    simp only [List.map_cons, List.any_cons, e, ih]
theorem numsF_any : ∀ ws : List Str, (ws.any fun w => (numF w).isNone) = (numsF ws).isNone
  | [] => rfl
  | w :: ws => by
    have ih := numsF_any ws
    rw [List.any_cons, ih]
    simp only [numsF]
    cases numF w <;> cases numsF ws <;> rfl
theorem numsF_some : ∀ {ws : List Str} {ns : List Int}, numsF ws = some ns → (ws.map fun w => oD (numF w)) = ns.map .int
  | [], ns, h => by
    have : ns = [] := by simpa [numsF] using h.symm
    subst this
    rfl
  | w :: ws, ns, h => by
    simp only [numsF] at h
    cases e1 : numF w with
    | none => rw [e1] at h; cases h
    | some n =>
      cases e2 : numsF ws with
      | none => rw [e1, e2] at h; cases h
      | some ms =>
        rw [e1, e2] at h
        cases h
        rw [List.map_cons, List.map_cons, numsF_some e2, e1]
        rfl
theorem pure_numbers_in : Pure C_numbers_in t_numbers_in N_numbers_in := by
  rintro ds QD ⟨ws, rfl, hl, h, q⟩
  unfold t_numbers_in
  refine seq_j fun R hR => ?_
  simp
  refine comp_map D.str (fun w => some (oD (numF w))) (by omega) (fun w hw acc C ha hC => ?_) ?_
  · simp [le1_numbers_in_e, ha]
    refine ⟨w, rfl, (h w hw).1, (h w hw).2, ?_⟩
    simpa using hC
  · rw [List.filterMap_eq_map']
    subst hR
    obtain ⟨e1, e2⟩ := lks_oD numF ws
    have e3 := any_non numF ws
    rw [numsF_any] at e3
    have e4 : (∃ x, x ∈ ws ∧ eqB (oD (numF x)) .non = true) ↔ (numsF ws).isNone = true := by
      rw [← e3]
      simp
    simp
    refine ⟨⟨e1, e2⟩, ?_⟩
    cases e5 : numsF ws with
    | none =>
      rw [if_pos (e4.mpr (by rw [e5]; rfl))]
      rw [e5] at q
      exact q
    | some ns =>
      rw [if_neg fun z => by have := e4.mp z; rw [e5] at this; cases this]
      rw [e5] at q
      rw [numsF_some e5]
      exact q
theorem strOk_S {n : Int} (h : Sm n) : PyData.strOk (numS n) = true := by
  obtain ⟨k, rfl, hk⟩ := sm_nat h
  exact strOk_num k
theorem len_S {n : Int} (h : Sm n) : (numS n).length ≤ 18 ∧ 1 ≤ (numS n).length := by
  obtain ⟨k, rfl, hk⟩ := sm_nat h
  have := numL_18 hk
  rw [numS_nat, S_len]
  omega
theorem free_S {n : Int} (h : Sm n) {c : Nat} (hc : c < 48 ∨ 57 < c) : c ∉ tl (numS n) := by
  obtain ⟨k, rfl, hk⟩ := sm_nat h
  rw [numS_nat]
  exact numL_free hc
theorem tl_sp : tl (" " : Str) = [32] := by decide +kernel
theorem tl_x : tl ("x" : Str) = [120] := by decide +kernel
theorem tl_emp : tl ("" : Str) = [] := by decide +kernel
theorem split3 {y a b c : Str} {s : Nat} (ey : tl y = [s]) (hs : s < 256) (ha : s ∉ tl a) (hb : s ∉ tl b) (hc : s ∉ tl c) : Txt.split (a ++ y ++ b ++ y ++ c) y = [a, b, c] := by
  have k : y.cps.all (· < 256) = true := by
    rw [← Array.all_toList, show y.cps.toList = [s] from ey]
    simpa using hs
  have e := split_join (parts := [a, b, c]) ey k (by simp) (by
    intro p hp
    simp at hp
    rcases hp with rfl | rfl | rfl
    · exact ha
    · exact hb
    · exact hc)
  rw [join_eq] at e
  have e2 : Str.join y [a, b, c] = a ++ y ++ b ++ y ++ c := by
    refine ext_tl ?_
    rw [tl_join]
    simp [joinL, tl_append]
  rw [e2] at e
  exact e
theorem lit_sp : (" " : Str).length = 1 := by decide +kernel
theorem joinL_len (S : List Nat) : ∀ l : List (List Nat), (joinL S l).length ≤ (l.map List.length).sum + l.length * S.length
  | [] => by simp [joinL]
  | [p] => by simp [joinL]
  | p :: q :: r => by
    have := joinL_len S (q :: r)
    simp only [joinL, List.length_append, List.map_cons, List.sum_cons, List.length_cons] at this ⊢
    rw [Nat.add_mul (r.length + 1) 1] 
    omega
end PR
/-! TWk: scripts walked over lists of labels: readings (printed by mkt.py). -/
namespace PR
open PySem PySem.Spec PyProof.Rows L2 DL
abbrev N__law_step : List Str := ["_law_rows", "_law_command_here", "_law_word", "_law_one", "_law_other", "_law_above", "_law_label"]
abbrev P__law_step : List Str := ["_law_rows", "_law_command_here"]
def t__law_step : DTS := (dSeq (dAsg (dVar 1) (gT 3 (gsCons (gN 2) (gsCons (gN 3) (gsCons (gN 4) gsNil))))) (dSeq (dIf (tV (dOp fEq (dVar 2) (dK (.str "delete")))) (dRet (dOp fAdd (dSl (dVar 0) oNone (oSome (dVar 3))) (dSl (dVar 0) (oSome (dOp fAdd (dVar 4) (dK (.int 1)))) oNone))) dNext) (dSeq (dSet 5 (dIfE (tV (dOp fGt (dVar 3) (dK (.int 0)))) (dOp fIx (dVar 0) (dOp fSub (dVar 3) (dK (.int 1)))) (dK .non))) (dSeq (dSet 6 (dIfE (tV (dIsN (dVar 5))) (dK .non) (dTup (aCons (dIxK 0 (dVar 5)) (aCons (dIxK 1 (dOp fIx (dVar 0) (dVar 3))) aNil))))) (dRet (dOp fAdd (dOp fAdd (dSl (dVar 0) oNone (oSome (dVar 3))) (dOp fMul (dLst (aCons (dVar 6) aNil)) (dVar 4))) (dSl (dVar 0) (oSome (dVar 3)) oNone)))))))
abbrev N__law_walk : List Str := ["_law_script_here", "_law_size", "_law_rows", "_law_command_here", "_law_row"]
abbrev P__law_walk : List Str := ["_law_script_here", "_law_size"]
def le1__law_walk : DTE := (dTup (aCons (dVar 4) (aCons (dVar 4) aNil)))
def lb2__law_walk : DTS := (dSet 2 (dCall C__law_step [] (aCons (dVar 2) (aCons (dVar 3) aNil))))
def t__law_walk : DTS := (dSeq (dSet 2 (dLcR (aCons (dVar 1) aNil) (gN 4) tYesD le1__law_walk [4])) (dSeq (dFor (dVar 0) (gN 3) lb2__law_walk) (dRet (dVar 2))))
abbrev N__law_is_layout : List Str := ["_law_layout", "_law_rows"]
abbrev P__law_is_layout : List Str := ["_law_layout", "_law_rows"]
def t__law_is_layout : DTS := (dRet (dCall C__law_like [] (aCons (dMeth 0 C_Layout_pieces [] (dVar 0) aNil) (aCons (dCall C__law_rolled [] (aCons (dVar 1) aNil)) aNil))))
abbrev N__law_due_command : List Str := ["_law_script_here", "_law_k", "_law_command_here"]
abbrev P__law_due_command : List Str := ["_law_script_here"]
def lb1__law_due_command : DTS := (dSeq (dSet 2 (dOp fIx (dVar 0) (dVar 1))) (dSeq (dIf (tvOr (tV (dOp fNe (dCB fLen (aCons (dVar 2) aNil)) (dK (.int 3)))) (tV (dOp fNotInF (dIxK 0 (dVar 2)) (dTup (aCons (dK (.str "insert")) (aCons (dK (.str "delete")) aNil)))))) (dRet (dVar 1)) dNext) (dSeq (dIf (tvAnd (tV (dOp fEq (dIxK 0 (dVar 2)) (dK (.str "insert")))) (tvOr (tV (dOp fLt (dIxK 1 (dVar 2)) (dK (.int 0)))) (tV (dOp fLt (dIxK 2 (dVar 2)) (dK (.int 1)))))) (dRet (dVar 1)) dNext) (dIf (tvAnd (tV (dOp fEq (dIxK 0 (dVar 2)) (dK (.str "delete")))) (tvNot (tV (dChain pLe pLe (dK (.int 0)) (dIxK 1 (dVar 2)) (dIxK 2 (dVar 2)))))) (dRet (dVar 1)) dNext))))
theorem lb1__law_due_command_e (E : DEnds) (τ : DSt) : lb1__law_due_command E τ = (dSeq (dSet 2 (dOp fIx (dVar 0) (dVar 1))) (dSeq (dIf (tvOr (tV (dOp fNe (dCB fLen (aCons (dVar 2) aNil)) (dK (.int 3)))) (tV (dOp fNotInF (dIxK 0 (dVar 2)) (dTup (aCons (dK (.str "insert")) (aCons (dK (.str "delete")) aNil)))))) (dRet (dVar 1)) dNext) (dSeq (dIf (tvAnd (tV (dOp fEq (dIxK 0 (dVar 2)) (dK (.str "insert")))) (tvOr (tV (dOp fLt (dIxK 1 (dVar 2)) (dK (.int 0)))) (tV (dOp fLt (dIxK 2 (dVar 2)) (dK (.int 1)))))) (dRet (dVar 1)) dNext) (dIf (tvAnd (tV (dOp fEq (dIxK 0 (dVar 2)) (dK (.str "delete")))) (tvNot (tV (dChain pLe pLe (dK (.int 0)) (dIxK 1 (dVar 2)) (dIxK 2 (dVar 2)))))) (dRet (dVar 1)) dNext)))) E τ := rfl
def t__law_due_command : DTS := (dSeq (dForR (aCons (dCB fLen (aCons (dVar 0) aNil)) aNil) (gN 1) lb1__law_due_command) (dRet (dK .non)))
abbrev N__law_odd_command : List Str := ["_law_bag_here", "_law_odd"]
abbrev P__law_odd_command : List Str := ["_law_bag_here"]
def t__law_odd_command : DTS := (dSeq (dSetO 1 (dLst (aCons (dTup (aCons (dK (.str "insert")) (aCons (dNeg (dK (.int 1))) (aCons (dK (.int 1)) aNil)))) (aCons (dTup (aCons (dK (.str "insert")) (aCons (dK (.int 2)) (aCons (dK (.int 0)) aNil)))) (aCons (dTup (aCons (dK (.str "insert")) (aCons (dK (.int 2)) (aCons (dNeg (dK (.int 3))) aNil)))) (aCons (dTup (aCons (dK (.str "delete")) (aCons (dK (.int 3)) (aCons (dK (.int 2)) aNil)))) (aCons (dTup (aCons (dK (.str "delete")) (aCons (dNeg (dK (.int 1))) (aCons (dK (.int 2)) aNil)))) (aCons (dTup (aCons (dK (.str "move")) (aCons (dK (.int 1)) (aCons (dK (.int 2)) aNil)))) aNil)))))))) (dSeq (dSetO 1 (dOp fAdd (dVar 1) (dLst (aCons (dTup (aCons (dK (.str "insert")) (aCons (dK (.int 1)) aNil))) (aCons (dTup aNil) (aCons (dTup (aCons (dK (.str "Insert")) (aCons (dK (.int 1)) (aCons (dK (.int 1)) aNil)))) (aCons (dTup (aCons (dK (.str "delete")) (aCons (dK (.int 0)) (aCons (dK (.int 0)) (aCons (dK (.int 0)) aNil))))) (aCons (dTup (aCons (dK (.str "delete")) aNil)) (aCons (dTup (aCons (dK (.str "")) (aCons (dK (.int 1)) (aCons (dK (.int 1)) aNil)))) aNil))))))))) (dSeq (dApp 1 (dTup (aCons (dK (.str "insert")) (aCons (dK (.int 0)) (aCons (dNeg (dOp fPow (dK (.int 10)) (dK (.int 20)))) aNil))))) (dRet (dCall C__law_of [] (aCons (dVar 0) (aCons (dVar 1) aNil)))))))
end PR
/-! TN: nearly the same rows, claimed differences: readings (printed by mkt.py). -/
namespace PR
open PySem PySem.Spec PyProof.Rows L2 DL
abbrev N_is_difference : List Str := ["one", "other", "claimed"]
abbrev P_is_difference : List Str := ["one", "other", "claimed"]
def t_is_difference : DTS := (dRet (vAnd (dCall C_is_span [] (aCons (dVar 2) aNil)) (dOp fNe (dCall C_carried [] (aCons (dVar 0) (aCons (dVar 2) aNil))) (dCall C_carried [] (aCons (dVar 1) (aCons (dVar 2) aNil))))))
abbrev N__law_far : List Str := ["_law_bag_here"]
abbrev P__law_far : List Str := ["_law_bag_here"]
def t__law_far : DTS := (dRet (dOp fAdd (dCall C__law_of [] (aCons (dVar 0) (aCons (dLst (aCons (dOp fPow (dK (.int 10)) (dK (.int 6))) (aCons (dOp fPow (dK (.int 10)) (dK (.int 18))) (aCons (dOp fPow (dK (.int 10)) (dK (.int 29))) aNil)))) aNil))) (dCall C__law_pull [] (aCons (dVar 0) (aCons (dOp fPow (dK (.int 10)) (dK (.int 6))) aNil)))))
abbrev N__law_bad_spans : List Str := ["_law_bag_here"]
abbrev P__law_bad_spans : List Str := ["_law_bag_here"]
def t__law_bad_spans : DTS := (dRet (dCall C__law_of [] (aCons (dVar 0) (aCons (dLst (aCons (dTup (aCons (dNeg (dK (.int 1))) (aCons (dK (.int 2)) aNil))) (aCons (dTup (aCons (dK (.int 3)) (aCons (dK (.int 2)) aNil))) (aCons (dTup (aCons (dNeg (dK (.int 1))) (aCons (dK .non) aNil))) (aCons (dTup (aCons (dOp fPow (dK (.int 10)) (dK (.int 20))) (aCons (dK (.int 5)) aNil))) (aCons (dTup (aCons (dK (.int 0)) (aCons (dNeg (dK (.int 1))) aNil))) aNil)))))) aNil))))
abbrev N__law_changed_rows : List Str := ["_law_bag_here", "_law_rows", "_law_way", "_law_at", "_law_above", "_law_gone", "_law_label", "_law_twice"]
abbrev P__law_changed_rows : List Str := ["_law_bag_here", "_law_rows"]
def t__law_changed_rows : DTS := (dSeq (dPar 2 3 false false (dCall C__law_pull [] (aCons (dVar 0) (aCons (dK (.int 5)) aNil))) (dCall C__law_pull [] (aCons (dVar 0) (aCons (dCB fMax (aCons (dK (.int 1)) (aCons (dOp fSub (dCB fLen (aCons (dVar 1) aNil)) (dK (.int 8))) aNil))) aNil)))) (dSeq (dIf (tV (dOp fEq (dVar 2) (dK (.int 0)))) (dRet (dOp fAdd (dSl (dVar 1) oNone (oSome (dVar 3))) (dSl (dVar 1) (oSome (dOp fAdd (dVar 3) (dK (.int 1)))) oNone))) dNext) (dSeq (dIf (tV (dOp fEq (dVar 2) (dK (.int 1)))) (dSeq (dSet 7 (vOr (dIsN (dOp fIx (dVar 1) (dVar 3))) (dOp fLt (dIxK 0 (dOp fIx (dVar 1) (dVar 3))) (dIxK 1 (dOp fIx (dVar 1) (dVar 3)))))) (dRet (dOp fAdd (dOp fAdd (dSl (dVar 1) oNone (oSome (dVar 3))) (dOp fMul (dLst (aCons (dOp fIx (dVar 1) (dVar 3)) aNil)) (dOp fAdd (dK (.int 1)) (dCB fInt (aCons (dVar 7) aNil))))) (dSl (dVar 1) (oSome (dOp fAdd (dVar 3) (dK (.int 1)))) oNone)))) dNext) (dSeq (dIf (tV (dOp fEq (dVar 2) (dK (.int 2)))) (dRet (dOp fAdd (dLst (aCons (dK .non) aNil)) (dVar 1))) dNext) (dSeq (dPar 4 5 false false (dIfE (tV (dOp fGt (dVar 3) (dK (.int 0)))) (dOp fIx (dVar 1) (dOp fSub (dVar 3) (dK (.int 1)))) (dK .non)) (dOp fSub (dVar 2) (dK (.int 3)))) (dSeq (dSet 6 (dIfE (tV (dIsN (dVar 4))) (dK .non) (dTup (aCons (dIxK 0 (dVar 4)) (aCons (dIxK 1 (dOp fIx (dVar 1) (dOp fAdd (dVar 3) (dVar 5)))) aNil))))) (dRet (dOp fAdd (dOp fAdd (dSl (dVar 1) oNone (oSome (dVar 3))) (dLst (aCons (dVar 6) aNil))) (dSl (dVar 1) (oSome (dOp fAdd (dVar 3) (dVar 5))) oNone)))))))))
abbrev N__law_carried_due : List Str := ["_law_rows", "_law_pair", "_law_size", "_law_last", "_law_inside", "_law_first", "_law_ends", "_law_end", "_law_k"]
abbrev P__law_carried_due : List Str := ["_law_rows", "_law_pair"]
def lt1__law_carried_due : DTT := (tvAnd (tV (dNotN (dOp fIx (dVar 0) (dVar 8)))) (tV (dOp fLe (dIxK 0 (dVar 1)) (dIxK 0 (dOp fIx (dVar 0) (dVar 8))))))
def le2__law_carried_due : DTE := (dVar 8)
def lt3__law_carried_due : DTT := (tvOr (tV (dIsN (dOp fIx (dVar 0) (dVar 8)))) (tV (dOp fLe (dIxK 1 (dOp fIx (dVar 0) (dVar 8))) (dIxK 1 (dVar 1)))))
def le4__law_carried_due : DTE := (dVar 8)
def t__law_carried_due : DTS := (dSeq (dPar 2 3 false false (dCB fLen (aCons (dVar 0) aNil)) (dIxK 0 (dIxL (dVar 0)))) (dSeq (dSet 4 (dLcR (aCons (dVar 2) aNil) (gN 8) lt1__law_carried_due le2__law_carried_due [8])) (dSeq (dSet 5 (dIfE (tV (dOp fNe (dVar 4) (dLst aNil))) (dIxK 0 (dVar 4)) (dOp fSub (dOp fAdd (dOp fSub (dVar 2) (dK (.int 1))) (dIxK 0 (dVar 1))) (dVar 3)))) (dSeq (dIf (tV (dIsN (dIxK 1 (dVar 1)))) (dRet (dTup (aCons (dVar 5) (aCons (dK .non) aNil)))) dNext) (dSeq (dSet 6 (dLcR (aCons (dVar 2) aNil) (gN 8) lt3__law_carried_due le4__law_carried_due [8])) (dSeq (dSet 7 (dIfE (tV (dOp fGe (dIxK 1 (dVar 1)) (dVar 3))) (dOp fSub (dOp fAdd (dOp fSub (dVar 2) (dK (.int 1))) (dIxK 1 (dVar 1))) (dVar 3)) (dIxL (dOp fAdd (dLst (aCons (dNeg (dK (.int 1))) aNil)) (dVar 6))))) (dRet (dIfE (tV (dOp fLe (dVar 5) (dVar 7))) (dTup (aCons (dVar 5) (aCons (dVar 7) aNil))) (dK .non)))))))))
abbrev N__law_one_length : List Str := ["_law_one", "_law_other", "_law_last", "_law_row"]
abbrev P__law_one_length : List Str := ["_law_one", "_law_other"]
def le1__law_one_length : DTE := (dTup (aCons (dVar 3) (aCons (dVar 3) aNil)))
def le2__law_one_length : DTE := (dTup (aCons (dVar 3) (aCons (dVar 3) aNil)))
def t__law_one_length : DTS := (dSeq (dSet 2 (dCB fMax (aCons (dIxK 0 (dIxL (dVar 0))) (aCons (dIxK 0 (dIxL (dVar 1))) aNil)))) (dSeq (dSet 0 (dOp fAdd (dVar 0) (dLcR2 (aCons (dOp fAdd (dIxK 0 (dIxL (dVar 0))) (dK (.int 1))) (aCons (dOp fAdd (dVar 2) (dK (.int 1))) aNil)) (gN 3) tYesD le1__law_one_length [3]))) (dRet (dTup (aCons (dVar 0) (aCons (dOp fAdd (dVar 1) (dLcR2 (aCons (dOp fAdd (dIxK 0 (dIxL (dVar 1))) (dK (.int 1))) (aCons (dOp fAdd (dVar 2) (dK (.int 1))) aNil)) (gN 3) tYesD le2__law_one_length [3])) aNil))))))
end PR
/-! TS: the readings of drawn scripts, followed spans (printed by mkt.py). -/
namespace PR
open PySem PySem.Spec PyProof.Rows L2 DL
abbrev N__law_command : List Str := ["_law_bag_here", "_law_far", "_law_at"]
abbrev P__law_command : List Str := ["_law_bag_here", "_law_far"]
def t__law_command : DTS := (dSeq (dSet 2 (dCall C__law_pull [] (aCons (dVar 0) (aCons (dCall C__law_of [] (aCons (dVar 0) (aCons (dLst (aCons (dK (.int 4)) (aCons (dK (.int 9)) (aCons (dVar 1) aNil)))) aNil))) aNil)))) (dSeq (dIf (tV (dOp fEq (dCall C__law_pull [] (aCons (dVar 0) (aCons (dK (.int 2)) aNil))) (dK (.int 0)))) (dRet (dTup (aCons (dK (.str "insert")) (aCons (dVar 2) (aCons (dCall C__law_of [] (aCons (dVar 0) (aCons (dLst (aCons (dK (.int 1)) (aCons (dK (.int 1)) (aCons (dK (.int 2)) (aCons (dK (.int 3)) aNil))))) aNil))) aNil))))) dNext) (dRet (dTup (aCons (dK (.str "delete")) (aCons (dVar 2) (aCons (dOp fAdd (dVar 2) (dCall C__law_of [] (aCons (dVar 0) (aCons (dLst (aCons (dK (.int 0)) (aCons (dK (.int 0)) (aCons (dK (.int 1)) (aCons (dK (.int 3)) aNil))))) aNil)))) aNil)))))))
abbrev N__law_script : List Str := ["_law_bag_here", "_law_most", "_law_k"]
abbrev P__law_script : List Str := ["_law_bag_here", "_law_most"]
def le1__law_script : DTE := (dCall C__law_command [] (aCons (dVar 0) (aCons (dK (.int 12)) aNil)))
theorem le1__law_script_e (τ : DSt) (Q : Sl → Prop) : le1__law_script τ Q = (dCall C__law_command [] (aCons (dVar 0) (aCons (dK (.int 12)) aNil))) τ Q := rfl
def t__law_script : DTS := (dRet (dLcR (aCons (dCall C__law_pull [] (aCons (dVar 0) (aCons (dOp fAdd (dVar 1) (dK (.int 1))) aNil))) aNil) (gN 2) tYesD le1__law_script [2]))
abbrev N__law_spans : List Str := ["_law_size", "_law_found", "_law_a", "_law_b"]
abbrev P__law_spans : List Str := ["_law_size"]
def le1__law_spans : DTE := (dTup (aCons (dVar 2) (aCons (dVar 3) aNil)))
def lb2__law_spans : DTS := (dSet 1 (dOp fAdd (dVar 1) (dLcR2 (aCons (dVar 2) (aCons (dVar 0) aNil)) (gN 3) tYesD le1__law_spans [3])))
def t__law_spans : DTS := (dSeq (dSet 1 (dLst aNil)) (dSeq (dForR (aCons (dVar 0) aNil) (gN 2) lb2__law_spans) (dRet (dVar 1))))
abbrev N__law_followed : List Str := ["_law_script_here", "_law_size", "_law_a", "_law_b", "_law_rows", "_law_word", "_law_one", "_law_other", "_law_inside", "_law_both", "_law_row", "_law_k"]
abbrev P__law_followed : List Str := ["_law_script_here", "_law_size", "_law_a", "_law_b"]
def le1__law_followed : DTE := (dChain pLe pLe (dVar 2) (dVar 10) (dVar 3))
def lb2__law_followed : DTS := (dIf (tV (dOp fEq (dVar 5) (dK (.str "delete")))) (dSet 4 (dOp fAdd (dSl (dVar 4) oNone (oSome (dVar 6))) (dSl (dVar 4) (oSome (dOp fAdd (dVar 7) (dK (.int 1)))) oNone))) (dSeq (dSet 9 (vAnd (dOp fGt (dVar 6) (dK (.int 0))) (vAnd (dOp fIx (dVar 4) (dOp fSub (dVar 6) (dK (.int 1)))) (dOp fIx (dVar 4) (dVar 6))))) (dSet 4 (dOp fAdd (dOp fAdd (dSl (dVar 4) oNone (oSome (dVar 6))) (dOp fMul (dLst (aCons (dVar 9) aNil)) (dVar 7))) (dSl (dVar 4) (oSome (dVar 6)) oNone)))))
def lt3__law_followed : DTT := (tV (dOp fIx (dVar 4) (dVar 11)))
def le4__law_followed : DTE := (dVar 11)
def t__law_followed : DTS := (dSeq (dSet 4 (dLcR (aCons (dVar 1) aNil) (gN 10) tYesD le1__law_followed [10])) (dSeq (dFor (dVar 0) (gT 3 (gsCons (gN 5) (gsCons (gN 6) (gsCons (gN 7) gsNil)))) lb2__law_followed) (dSeq (dSet 8 (dLcR (aCons (dCB fLen (aCons (dVar 4) aNil)) aNil) (gN 11) lt3__law_followed le4__law_followed [11])) (dRet (dIfE (tV (dOp fNe (dVar 8) (dLst aNil))) (dTup (aCons (dIxK 0 (dVar 8)) (aCons (dIxL (dVar 8)) aNil))) (dK .non))))))
end PR
/-! PS: drawn scripts, followed spans: what the readings do. -/
namespace PR
open PySem PySem.Spec PyProof.Rows L2 DL
theorem pure__law_command : Pure C__law_command t__law_command N__law_command := by
  rintro ds QD ⟨far, rfl, h1, h2, q⟩
  simp [t__law_command]
  refine of_ints [4, 9, far] 4 far (fun i i1 i2 => ?_) (by simp) (by simp) (by simp; omega)
  refine use_pull (n := i) (by omega) (by omega) fun a a1 a2 => ?_
  simp
  refine use_pull (n := 2) (by decide) (by decide) fun k k1 k2 => ?_
  by_cases hk : k = 0
  · simp [hk]
    refine of_ints [1, 1, 2, 3] 1 3 fun n n1 n2 => ?_
    simpa [Cmd.d] using q (.ins a n) ⟨a1, by omega, n1, n2⟩
  · simp [hk]
    refine of_ints [0, 0, 1, 3] 0 3 fun n n1 n2 => ?_
    simpa [Cmd.d] using q (.del a (a + n)) ⟨a1, by omega, by omega, by omega⟩
theorem pure__law_script : Pure C__law_script t__law_script N__law_script := by
  rintro ds QD ⟨most, rfl, h1, q⟩
  simp [t__law_script]
  refine use_pull (n := (most : Int) + 1) (by omega) (by omega) fun m m1 m2 => ?_
  simp [-rangeL]
  refine ⟨by omega, ?_⟩
  refine comp_draw Cmd.d (Drawn 12) (n := m.toNat) (by omega) (fun k acc C hk ha hC => ?_) fun cs h1 h2 => ?_
  · simp [le1__law_script_e, ha]
    exact ⟨12, rfl, by decide, by decide, fun c hc => by simpa using hC c hc⟩
  · simpa [cmdsD] using q cs (by omega) h2
/-! ### followed -/
@[simp] theorem imm_bls (xs : List Bool) : immAll (xs.map D.bl) = true := by
  induction xs with
  | nil => rfl
  | cons p ps ih => simpa using ih
@[simp] theorem lays_ints (xs : List Int) : lays (xs.map D.int) = true := by
  induction xs with
  | nil => rfl
  | cons p ps ih => simpa using ih
@[simp] theorem deps_ints (xs : List Int) : deps (xs.map D.int) = 0 := by
  induction xs with
  | nil => rfl
  | cons p ps ih => simpa using ih
end PR
/-! M3: spans that may be none; the tail of a layout: promises. -/
namespace PR
open PySem PySem.Spec PyProof.Rows L2 DL
abbrev eBadSpan : Er := mkEr "BadSpan" [] []
def X_check_span : CtrX := fun ds Q R => ∃ s : Span, ds = [spanD s] ∧ (s.ok = true → Q (.v 2 .non)) ∧ (s.ok = false → R eBadSpan)
def X_carried : CtrX := fun ds Q R => ∃ (ps : List Pc) (s : Span), ds = [layD ps, spanD s] ∧ Lay ps ∧ (s.ok = true → Q (.v 2 (ospD (carF ps s)))) ∧ (s.ok = false → R eBadSpan)
/-- the first old row of the last piece -/
def tailF (ps : List Pc) : Int := match ps.getLast? with
  | some (.old a _) => a
  | _ => 0
def shiftF (ps : List Pc) : Int := tot ps.dropLast - tailF ps
@[simp] theorem tailF_app (pre : List Pc) (a : Int) : tailF (pre ++ [.old a none]) = a := by simp [tailF]
@[simp] theorem shiftF_app (pre : List Pc) (a : Int) : shiftF (pre ++ [.old a none]) = tot pre - a := by simp [shiftF]
def C_Layout_tail : Ctr := fun ds Q => ∃ ps : List Pc, ds = [layD ps] ∧ Lay ps ∧ Q (.v 2 (.int (tailF ps)))
def C_Layout_shift : Ctr := fun ds Q => ∃ ps : List Pc, ds = [layD ps] ∧ Lay ps ∧ ps.length < 1000 ∧ Q (.v 2 (.int (shiftF ps)))
/-- behind the tail -/
theorem tail_lab {ps : List Pc} (h : Lay ps) {v : Int} (hv : tailF ps ≤ v) : lab ps (v + shiftF ps) = some (v, v) ∧ 0 ≤ v + shiftF ps := by
  obtain ⟨pre, a, rfl, hc, ha⟩ := h
  rw [tailF_app] at hv
  rw [shiftF_app]
  have := tot_nonneg hc
  refine ⟨?_, by omega⟩
  rw [lab_app hc (by omega), if_neg (by omega)]
  simp [lab, Pc.size, Pc.at_]
  omega
end PR
namespace PR
open PySem PySem.Spec PyProof.Rows L2 DL
def tx_check_span : DTS := (dIf (tvNot (tV (dCall C_is_span [] (aCons (dVar 0) aNil)))) (dRaise "BadSpan" [] aNil) dNext)
def tx_carried : DTS := (dSeq (dDropX (dCallX X_check_span [] (aCons (dVar 1) aNil))) (dRet (dCall C_carried_in [] (aCons (dMeth 0 C_Layout_pieces [] (dVar 0) aNil) (aCons (dVar 1) aNil)))))
abbrev N_Layout_tail : List Str := ["self"]
abbrev P_Layout_tail : List Str := ["self"]
def t_Layout_tail : DTS := (dRet (dIxK 1 (dIxL (dFld 0 0 (dVar 0)))))
abbrev N_Layout_shift : List Str := ["self", "piece"]
abbrev P_Layout_shift : List Str := ["self"]
def le1_Layout_shift : DTE := (dCall C_size_of [] (aCons (dVar 1) aNil))
def t_Layout_shift : DTS := (dRet (dOp fSub (dCB fSum (aCons (dLc (dSl (dFld 0 0 (dVar 0)) oNone (oSome (dNeg (dK (.int 1))))) (gN 1) tYesD le1_Layout_shift [1]) aNil)) (dIxK 1 (dIxL (dFld 0 0 (dVar 0))))))
end PR
/-! P3: spans that may be none; the tail of a layout. -/
namespace PR
open PySem PySem.Spec PyProof.Rows L2 DL
end PR
/-! PN: nearly the same rows, spans far away, claimed differences. -/
namespace PR
open PySem PySem.Spec PyProof.Rows L2 DL
theorem Lays.shift {rows : List (Option Lab)} {ps : List Pc} {v : Int} (L : Lays rows ps v) : shiftF ps = rows.length - 1 - v := by
  have t1 := L.tl.1
  obtain ⟨u, hu1, hu2⟩ : ∃ u : Int, tailF ps ≤ u ∧ v < u := ⟨max (tailF ps) (v + 1), by omega, by omega⟩
  obtain ⟨a1, a2⟩ := tail_lab L.wh.lay hu1
  have b1 := L.tl.2 ((rows.length : Int) - 1 + u - v) (by omega)
  rw [show v + 1 + ((rows.length : Int) - 1 + u - v - rows.length) = u by omega] at b1
  have g := L.wh.good.mono
  have h1 := g (u + shiftF ps) ((rows.length : Int) - 1 + u - v) a2
  have h2 := g ((rows.length : Int) - 1 + u - v) (u + shiftF ps) (by omega)
  rw [a1, b1] at h1 h2
  have no : ¬ ole (some (u, u)) (some (u, u)) := fun z => by
    have := z.2.2 rfl rfl
    omega
  have h1 : ¬ (u + shiftF ps < (rows.length : Int) - 1 + u - v) := fun z => no (h1 z)
  have h2 : ¬ ((rows.length : Int) - 1 + u - v < u + shiftF ps) := fun z => no (h2 z)
  omega
def carTl (rows : List (Option Lab)) (v f : Int) (b : Option Int) : Option Span := match b with
  | none => some (f, none)
  | some b =>
    let e := if v ≤ b then rows.length - 1 + b - v else (-1 :: insideL (rows.map (uptoL b))).getLast?.getD 0
    if f ≤ e then some (f, some e) else none
end PR
/-! T6: scripts that may be refused: readings (printed by mkt.py). -/
namespace PR
open PySem PySem.Spec PyProof.Rows L2 DL
def lbx1_check_script : DTS := (dIf (tvNot (tV (dCall C_is_command [] (aCons (dVar 2) aNil)))) (dRaise "BadCommand" ["at"] (aCons (dVar 1) aNil)) dNext)
theorem lbx1_check_script_e (E : DEnds) (τ : DSt) : lbx1_check_script E τ = (dIf (tvNot (tV (dCall C_is_command [] (aCons (dVar 2) aNil)))) (dRaise "BadCommand" ["at"] (aCons (dVar 1) aNil)) dNext) E τ := rfl
def tx_check_script : DTS := (dForE (aCons (dVar 0) aNil) (gT 2 (gsCons (gN 1) (gsCons (gN 2) gsNil))) lbx1_check_script)
def lbx1_run : DTS := (dSet 2 (dCall C_changed [] (aCons (dVar 2) (aCons (dVar 3) aNil))))
def tx_run : DTS := (dSeq (dDropX (dCallX X_check_script [] (aCons (dVar 0) aNil))) (dSeq (dSet 2 (dIfE (tV (dIsN (dVar 1))) (dCB fList (aCons (dK (.tup [.tup [.str "old", .int 0, .non]])) aNil)) (dMeth 0 C_Layout_pieces [] (dVar 1) aNil))) (dSeq (dFor (dVar 0) (gN 3) lbx1_run) (dRetX (dMakeX 0 X_Layout___init__ [] (aCons (dVar 2) aNil))))))
end PR
/-! P6: scripts that may be refused. -/
namespace PR
open PySem PySem.Spec PyProof.Rows L2 DL
theorem badIt_cons (n : Nat) (it : Itm) (its : List Itm) : badIt n (it :: its) = if it.ok then badIt (n + 1) its else some n := rfl
theorem purex_check_script : PureX X_check_script tx_check_script N_check_script := by
  rintro ds QD QE ⟨its, tu, rfl, h1, h2⟩
  have key : ∀ (g : Nat) (hg : g = 1 ∨ g = 2) (s0 : Sl), forRec g (gT 2 (gsCons (gN 1) (gsCons (gN 2) gsNil))) lbx1_check_script { nx := fun _ => QD (.v 2 .non), rt := QD, er := QE } (enumL 0 (itsD its)) [s0, .un, .un] := fun g hg s0 => by
    refine for_invX (fun k τ => (∃ s1 s2, τ = [s0, s1, s2]) ∧ badIt k (its.drop k) = badIt 0 its) ⟨⟨_, _, rfl⟩, rfl⟩ (fun k d τ E' e t hE h => ?_) fun τ h => ?_
    · obtain ⟨c, e1, rfl⟩ := enum_map Itm.d its _ _ _ e
      obtain ⟨⟨s1, s2, rfl⟩, hb⟩ := h
      obtain ⟨hk, e2⟩ := List.getElem?_eq_some_iff.mp e1
      rw [List.drop_eq_getElem_cons hk, e2, badIt_cons] at hb
      cases ho : c.ok with
      | true =>
        rw [ho, if_pos rfl] at hb
        have := (hE _ ⟨⟨.v 2 (.int (0 + k)), .v 2 c.d, rfl⟩, hb⟩).1
        rcases hg with rfl | rfl <;> simpa [lbx1_check_script_e, ho] using this
      | false =>
        rw [ho] at hb
        have := h2 k (by rw [← hb]; rfl)
        have : E'.er (eBadCommand k) := by rw [t.er]; exact this
        rcases hg with rfl | rfl <;> simpa [lbx1_check_script_e, ho] using this
    · obtain ⟨_, hb⟩ := h
      have el : (enumL 0 (itsD its)).length = its.length := by
        have : ∀ (xs : List D) (i : Int), (enumL i xs).length = xs.length := fun xs => by
          induction xs with
          | nil => intro i; rfl
          | cons x xs ih => intro i; simp [ih]
        rw [this]; simp
      rw [el, List.drop_length] at hb
      exact h1 (by rw [← hb]; rfl)
  cases tu
  · simpa [tx_check_script, seqOf] using key _ (by simp) _
  · simpa [tx_check_script, seqOf] using key _ (by simp) _
end PR
/-! PWk: scripts walked over lists of labels. -/
namespace PR
open PySem PySem.Spec PyProof.Rows L2 DL
theorem pure__law_due_command : Pure C__law_due_command t__law_due_command N__law_due_command := by
  rintro ds QD ⟨its, rfl, hl, q⟩
  simp [t__law_due_command, -rangeL]
  refine ⟨by omega, ?_⟩
  refine for_rng (n := its.length) (fun k τ => (∃ s1 s2, τ = [.v 1 (.lst (itsD its)), s1, s2]) ∧ badIt k (its.drop k) = badIt 0 its) ⟨⟨_, _, rfl⟩, rfl⟩ (fun k τ E' hk hrt _ _ hE _ h => ?_) fun τ h => ?_
  · obtain ⟨⟨s1, s2, rfl⟩, hb⟩ := h
    rw [List.drop_eq_getElem_cons hk, badIt_cons] at hb
    have p : L2.atI (itsD its) ((k : Int)) = some its[k].d := by rw [atI_k]; simp [itsD, hk]
    generalize its[k] = it at *
    have hN := fun z => hE _ ⟨⟨.v 2 (.int k), .v 2 it.d, rfl⟩, z⟩
    have hR : it.ok = false → E'.rt (.v 2 (.int k)) := fun z => by
      rw [z] at hb
      rw [← show some k = badIt 0 its from hb] at q
      rw [hrt]
      simpa [oI] using q
    have hN : it.ok = true → E'.nx [.v 1 (.lst (itsD its)), .v 2 (.int k), .v 2 it.d] := fun z => hN (by rw [z, if_pos rfl] at hb; exact hb)
    clear hE hb
    cases it with
    | cmd c => cases c with
      | ins i n =>
        have hN : 0 ≤ i → 1 ≤ n → _ := fun a b => hN (by simp [Itm.ok, Cmd.ok]; omega)
        have hR : ¬ (0 ≤ i ∧ 1 ≤ n) → _ := fun a => hR (by simp [Itm.ok, Cmd.ok]; omega)
        simp [Itm.d, Cmd.d] at hN
        simp [lb1__law_due_command_e, p, Itm.d, Cmd.d]
        by_cases c1 : i < 0
        · simpa [c1] using hR (by omega)
        · by_cases c2 : n < 1
          · simpa [c1, c2] using hR (by omega)
          · simpa [c1, c2] using hN (by omega) (by omega)
      | del a b =>
        have hN : 0 ≤ a → a ≤ b → _ := fun x y => hN (by simp [Itm.ok, Cmd.ok]; omega)
        have hR : ¬ (0 ≤ a ∧ a ≤ b) → _ := fun x => hR (by simp [Itm.ok, Cmd.ok]; omega)
        simp [Itm.d, Cmd.d] at hN
        simp [lb1__law_due_command_e, p, Itm.d, Cmd.d]
        by_cases c1 : 0 ≤ a
        · by_cases c2 : a ≤ b
          · have c3 : ¬ b < a := by omega
            simpa [c1, c2, c3] using hN c1 c2
          · have c3 : b < a := by omega
            simpa [c1, c2, c3] using hR (by omega)
        · simpa [c1] using hR (by omega)
    | odd o =>
      cases o with
      | any w a b h =>
        obtain ⟨h1, h2, h3, _⟩ := oddW_ok h
        simp [lb1__law_due_command_e, p, Itm.d, Odd.d, h1, h2, h3]
        rw [if_pos ⟨Ne.symm h2, Ne.symm h3⟩]
        exact hR rfl
      | _ => simp [lb1__law_due_command_e, p, Itm.d, Odd.d] <;> exact hR rfl
  · obtain ⟨⟨s1, s2, rfl⟩, hb⟩ := h
    rw [List.drop_length] at hb
    rw [← show none = badIt 0 its from hb] at q
    simpa [oI] using q
theorem pure__law_odd_command : Pure C__law_odd_command t__law_odd_command N__law_odd_command := by
  rintro ds QD ⟨rfl, q⟩
  unfold t__law_odd_command
  have c1 : CPow 10 20 := ⟨by decide, by decide, by decide⟩
  refine seq_j fun R hR => ?_
  have q1 := q (.cmd (.ins (-1) 1)) rfl
  have q2 := q (.cmd (.ins 2 0)) rfl
  have q3 := q (.cmd (.ins 2 (-3))) rfl
  have q4 := q (.cmd (.del 3 2)) rfl
  have q5 := q (.cmd (.del (-1) 2)) rfl
  have q6 := q (.odd .move) rfl
  have q7 := q (.odd .ins1) rfl
  have q8 := q (.odd .nil) rfl
  have q9 := q (.odd .Ins) rfl
  have q10 := q (.odd .del3) rfl
  have q11 := q (.odd .del0) rfl
  have q12 := q (.odd .empty) rfl
  have q13 := q (.cmd (.ins 0 (-(10 ^ 20)))) rfl
  unfold dSetO
  rw [lst_c (ds := [(Itm.cmd (.ins (-1) 1)).d, (Itm.cmd (.ins 2 0)).d, (Itm.cmd (.ins 2 (-3))).d, (Itm.cmd (.del 3 2)).d, (Itm.cmd (.del (-1) 2)).d, (Itm.odd .move).d]) (by repeat first | exact ca_nil | refine ca_cons ?_ ?_ | exact ce_k | exact ce_neg | refine ce_tup ?_)]
  simp
  subst hR
  refine seq_j fun R hR => ?_
  unfold dSetO
  refine cat_c (ds := [(Itm.odd .ins1).d, (Itm.odd .nil).d, (Itm.odd .Ins).d, (Itm.odd .del3).d, (Itm.odd .del0).d, (Itm.odd .empty).d]) (by repeat first | exact ca_nil | refine ca_cons ?_ ?_ | exact ce_k | exact ce_neg | refine ce_tup ?_) rfl (by simp) (by simp) rfl ?_
  simp
  subst hR
  refine seq_j fun R hR => ?_
  simp
  refine ⟨c1, ?_⟩
  subst hR
  simp
  refine ⟨by simp, by simp, by simp, fun d hd => ?_⟩
  simp only [List.mem_cons, List.not_mem_nil, or_false] at hd
  rcases hd with rfl | rfl | rfl | rfl | rfl | rfl | rfl | rfl | rfl | rfl | rfl | rfl | rfl
  · simpa using q1
  · simpa using q2
  · simpa using q3
  · simpa using q4
  · simpa using q5
  · simpa using q6
  · simpa using q7
  · simpa using q8
  · simpa using q9
  · simpa using q10
  · simpa using q11
  · simpa using q12
  · simpa [Itm.d, Cmd.d] using q13
end PR
/-! PTs: texts of scripts: plain proofs. -/
namespace PR
open PySem PySem.Spec PyProof.Rows L2 DL SX TL
theorem numsF_len : ∀ {ws : List Str} {ns : List Int}, numsF ws = some ns → ns.length = ws.length
  | [], ns, h => by
    have : ns = [] := by simpa [numsF] using h.symm
    subst this
    rfl
  | w :: ws, ns, h => by
    simp only [numsF] at h
    cases e1 : numF w with
    | none => rw [e1] at h; cases h
    | some n =>
      cases e2 : numsF ws with
      | none => rw [e1, e2] at h; cases h
      | some ms =>
        rw [e1, e2] at h
        cases h
        simp [numsF_len e2]
theorem imm_strs (ws : List Str) : immAll (ws.map D.str) = true := by
  induction ws with
  | nil => rfl
  | cons w ws ih => simpa using ih
def partF (w : Str) : List Str → Option Cmd
  | [x, y] => match numF x, numF y with
    | some a, some b => cmdOf w a b
    | _, _ => none
  | _ => none
theorem lineF_of {l w : Str} {ws : List Str} (es : Txt.split l (" " : Str) = w :: ws) : lineF l = partF w ws := by
  unfold lineF
  rw [es]
  cases ws with
  | nil => rfl
  | cons x ws => cases ws with
    | nil => rfl
    | cons y ws => cases ws <;> rfl
theorem partF_none {w : Str} {ws : List Str} (en : numsF ws = none) : partF w ws = none := by
  match ws, en with
  | [], en => cases en
  | [x], _ => rfl
  | x :: y :: z :: ws, _ => rfl
  | [x, y], en =>
    simp only [numsF] at en
    unfold partF
    cases e1 : numF x <;> cases e3 : numF y <;> simp [e1, e3] at en ⊢
theorem partF_two {w x y : Str} {a b : Int} (en : numsF [x, y] = some [a, b]) : partF w [x, y] = cmdOf w a b := by
  simp only [numsF] at en
  unfold partF
  cases e1 : numF x with
  | none => rw [e1] at en; cases en
  | some a' =>
    cases e3 : numF y with
    | none => rw [e1, e3] at en; cases en
    | some b' =>
      rw [e1, e3] at en
      cases en
      simp only [e1, e3]
theorem partF_len {w : Str} {ws : List Str} (h2 : ws.length ≠ 2) : partF w ws = none := by
  match ws, h2 with
  | [], _ => rfl
  | [x], _ => rfl
  | [x, y], h => exact absurd rfl h
  | x :: y :: z :: ws, _ => rfl
theorem pure_command_in : Pure C_command_in t_command_in N_command_in := by
  rintro ds QD ⟨l, rfl, hl, hn, q⟩
  obtain ⟨s1, s2, s3⟩ := split_parts tl_sp k_sp hl
  unfold t_command_in
  refine seq_j fun R hR => ?_
  simp [lit_sp]
  refine ⟨by omega, ?_⟩
  cases es : Txt.split l (" " : Str) with
  | nil => exact absurd es s2
  | cons w ws =>
    rw [es] at s1 s3
    have hw := s3 w (by simp)
    simp at s1
    have im := imm_strs ws
    simp
    refine ⟨by omega, im, ?_⟩
    subst hR
    refine seq_j fun R hR => ?_
    simp
    refine ⟨ws, rfl, by omega, fun x hx => ⟨(s3 x (by simp [hx])).1, by have := (s3 x (by simp [hx])).2; omega⟩, ?_⟩
    subst hR
    have ef := lineF_of es
    cases en : numsF ws with
    | none =>
      have e2 : lineF l = none := by rw [ef, partF_none en]
      rw [e2] at q
      simp [numsD]
      exact q
    | some ns =>
      have el := numsF_len en
      by_cases h2 : ns.length = 2
      · obtain ⟨a, b, rfl⟩ : ∃ a b, ns = [a, b] := by
          match ns, h2 with
          | [a, b], _ => exact ⟨a, b, rfl⟩
        obtain ⟨x, y, rfl⟩ : ∃ x y, ws = [x, y] := by
          rw [h2] at el
          match ws, el with
          | [x, y], _ => exact ⟨x, y, rfl⟩
        have e2 : lineF l = cmdOf w a b := by rw [ef, partF_two en]
        rw [e2] at q
        obtain ⟨it, i1, i2, i3⟩ := itm_of hw.1 a b
        simp [numsD]
        rw [← i1]
        refine ⟨it, rfl, ?_⟩
        simp only []
        rw [i2]
        cases ec : cmdOf w a b with
        | none =>
          rw [ec] at q
          simp
          exact q
        | some c =>
          rw [ec] at q
          have := (i3 c ec).1
          rw [← i1] at this
          simp
          rw [← this]
          exact q
      · have e2 : lineF l = none := by rw [ef, partF_len (by omega)]
        rw [e2] at q
        simp [numsD]
        rw [if_neg (by omega)]
        exact q
theorem split_nl {t : Str} (h : PyData.strOk t = true) : ∃ ls last, Txt.split t ("\n" : Str) = ls ++ [last] ∧ ls.length ≤ t.length ∧ ∀ p, p ∈ ls ∨ p = last → PyData.strOk p = true ∧ p.length ≤ t.length := by
  obtain ⟨s1, s2, s3⟩ := split_parts tl_nl k_nl h
  refine ⟨(Txt.split t ("\n" : Str)).dropLast, (Txt.split t ("\n" : Str)).getLast s2, (List.dropLast_concat_getLast s2).symm, by simp; omega, fun p hp => s3 p ?_⟩
  rcases hp with hp | rfl
  · exact (List.dropLast_sublist _).subset hp
  · exact List.getLast_mem s2
theorem purex_parse_script : PureX X_parse_script tx_parse_script N_parse_script := by
  rintro ds QD QE ⟨t, rfl, ht, hl, h1, h2⟩
  obtain ⟨ls, last, es, ln, hp⟩ := split_nl ht
  have im := imm_strs (ls ++ [last])
  have ef : parseF t = goF 0 (ls ++ [last]) [] := by unfold parseF; rw [es]
  have nl1 : ("\n" : Str).length = 1 := by decide +kernel
  unfold tx_parse_script
  refine seq_j fun R hR => ?_
  simp [nl1, es]
  refine ⟨by omega, ls.map .str, .str last, ⟨rfl, rfl⟩, by simp; omega, by simpa using imm_strs ls, ?_⟩
  subst hR
  refine seq_j fun R hR => ?_
  simp
  subst hR
  refine seq_j fun R hR => ?_
  simp
  refine for_invX (fun k τ => ∃ (acc : List Cmd) (s4 s5 s6 : Sl), τ = [.v 2 (.str t), .v 2 (.lst (ls.map .str)), .v 2 (.str last), .own (cmdsD acc), s4, s5, s6] ∧ acc.length = k ∧ goF k (ls.drop k ++ [last]) acc = parseF t) ⟨[], _, _, _, rfl, rfl, ef.symm⟩ (fun k d τ E' e tt hE h => ?_) fun τ h => ?_
  · obtain ⟨l, e1, rfl⟩ := enum_map D.str ls _ _ _ e
    obtain ⟨acc, s4, s5, s6, rfl, ha, hg⟩ := h
    obtain ⟨hk, e2⟩ := List.getElem?_eq_some_iff.mp e1
    rw [List.drop_eq_getElem_cons hk, e2, List.cons_append, goF_cons] at hg
    have hpl := hp l (.inl (List.mem_of_getElem? e1))
    simp [lbx1_parse_script_e]
    refine ⟨l, rfl, hpl.1, by omega, ?_⟩
    cases el : lineF l with
    | none =>
      rw [el] at hg
      have := h2 k hg.symm
      have : E'.er (eBadText k) := by rw [tt.er]; exact this
      simp [cmdD]
      exact this
    | some c =>
      rw [el] at hg
      have := (hE _ ⟨acc ++ [c], .v 2 (.int (0 + k)), .v 2 (.str l), .v 2 c.d, rfl, by simp [ha], hg⟩).1
      have en : isNon c.d = false := by cases c <;> rfl
      simp [cmdD, en]
      refine ⟨by omega, ?_⟩
      simpa [cmdsD] using this
  · obtain ⟨acc, s4, s5, s6, rfl, ha, hg⟩ := h
    have e : (enumL 0 (List.map D.str ls)).length = ls.length := by rw [DL.enumL_len, List.length_map]
    rw [e, List.drop_length, List.nil_append, goF_one] at hg
    have ok1 : PyData.strOk ("" : Str) = true := by decide +kernel
    have hpl := hp last (.inr rfl)
    show R _
    subst hR
    refine seq_j fun R hR => ?_
    simp [ok1, hpl.1]
    by_cases c : last = ("" : Str)
    · rw [if_pos c] at hg
      have := h1 acc hg.symm
      rw [if_pos c]
      subst hR
      simpa using this
    · rw [if_neg c] at hg
      have := h2 _ hg.symm
      rw [if_neg c]
      exact this
theorem line_len {c : Cmd} (h : SmC c) : (lineT c).length ≤ 44 := by
  have i1 : ("insert" : Str).length = 6 := by decide +kernel
  have i2 : ("delete" : Str).length = 6 := by decide +kernel
  cases c with
  | ins a b =>
    have := len_S h.1
    have := len_S h.2
    simp only [lineT, str_len_app, i1, lit_sp]
    omega
  | del a b =>
    have := len_S h.1
    have := len_S h.2
    simp only [lineT, str_len_app, i2, lit_sp]
    omega
theorem lines_len {cs : List Cmd} (h : ∀ c ∈ cs, SmC c) : ((cs.map fun c => lineT c ++ ("\n" : Str)).map (·.length)).sum ≤ 45 * cs.length := by
  have nl1 : ("\n" : Str).length = 1 := by decide +kernel
  induction cs with
  | nil => simp
  | cons c cs ih =>
    have l := line_len (h c (by simp))
    have := ih fun q hq => h q (by simp [hq])
    simp only [List.map_cons, List.sum_cons, List.length_cons, str_len_app, nl1] at this ⊢
    omega
theorem purex_script_text : PureX X_script_text tx_script_text N_script_text := by
  rintro ds QD QE ⟨its, tu, rfl, hl, hs, h1, h2⟩
  have nl1 : ("\n" : Str).length = 1 := by decide +kernel
  have i1 : ("insert" : Str).length = 6 := by decide +kernel
  have i2 : ("delete" : Str).length = 6 := by decide +kernel
  have em : ("" : Str).length = 0 := by decide +kernel
  have key : ∀ (g : Nat) (hg : g = 1 ∨ g = 2), tx_script_text { nx := fun _ => QD (.v 2 .non), rt := QD, er := QE } [.v g (seqOf tu (itsD its)), .un, .un, .un] := fun g hg => by
    unfold tx_script_text
    refine seq_j fun R hR => ?_
    simp
    refine ⟨its, tu, rfl, fun hb => ?_, h1⟩
    obtain ⟨cs, rfl, hc⟩ := badIt_none its 0 hb
    have h2 := h2 cs rfl hc
    subst hR
    have hsc : ∀ c ∈ cs, SmC c := fun c hx => hs c (List.mem_map.mpr ⟨c, hx, rfl⟩) (hc c hx)
    simp at hl
    rw [itsD_cmds]
    simp
    refine comp_map Cmd.d (fun c => some (.str (lineT c ++ ("\n" : Str)))) (by omega) (fun c hx acc C ha hC => ?_) ?_
    · have sm := hsc c hx
      have hC : C (acc ++ [.str (lineT c ++ ("\n" : Str))]) := by simpa using hC
      cases c with
      | ins a b =>
        have g1 := sm_log sm.1
        have g2 := sm_log sm.2
        have l1 := len_S sm.1
        have l2 := len_S sm.2
        have e : ("insert" : Str) ++ (" " : Str) ++ numS a ++ (" " : Str) ++ numS b ++ ("\n" : Str) = lineT (.ins a b) ++ ("\n" : Str) := rfl
        have ll := line_len sm
        rcases hg with rfl | rfl <;> simp [Cmd.d, lex1_script_text_e, g1, g2, nl1, i1, lit_sp, ha, e] <;> exact ⟨by omega, by omega, by omega, by omega, hC⟩
      | del a b =>
        have g1 := sm_log sm.1
        have g2 := sm_log sm.2
        have l1 := len_S sm.1
        have l2 := len_S sm.2
        have e : ("delete" : Str) ++ (" " : Str) ++ numS a ++ (" " : Str) ++ numS b ++ ("\n" : Str) = lineT (.del a b) ++ ("\n" : Str) := rfl
        have ll := line_len sm
        rcases hg with rfl | rfl <;> simp [Cmd.d, lex1_script_text_e, g1, g2, nl1, i2, lit_sp, ha, e] <;> exact ⟨by omega, by omega, by omega, by omega, hC⟩
    · rw [List.filterMap_eq_map']
      simp
      have a := lines_len hsc
      have e1 : strsD (cs.map fun c => D.str (lineT c ++ ("\n" : Str))) = some (cs.map fun c => lineT c ++ ("\n" : Str)) := by
        have := strsD_map (cs.map fun c => lineT c ++ ("\n" : Str))
        rw [List.map_map] at this
        exact this
      refine ⟨_, e1, ?_, h2⟩
      rw [em]
      omega
  cases tu
  · simpa using key 1 (by simp)
  · simpa using key 2 (by simp)
theorem pure__law_plain_number : Pure C__law_plain_number t__law_plain_number N__law_plain_number := by
  rintro ds QD ⟨w, rfl, hw, hl, q⟩
  have ok0 : PyData.strOk ("" : Str) = true := by decide +kernel
  have em : w = ("" : Str) ↔ ¬ 1 ≤ w.length := by
    rw [len_tl]
    have e : tl ("" : Str) = [] := tl_emp
    constructor
    · intro h
      rw [h, e]
      simp
    · intro h
      refine ext_tl ?_
      rw [e]
      cases h2 : tl w with
      | nil => rfl
      | cons x r => rw [h2] at h; simp at h
  unfold t__law_plain_number
  refine seq_j fun R hR => ?_
  simp [hw, ok0]
  by_cases h1 : 1 ≤ w.length
  · rw [if_neg fun z => (em.mp z) h1]
    refine ⟨by omega, ?_⟩
    by_cases h2 : w.length ≤ 18
    · rw [if_neg (by omega)]
      have es : signsD w = (tl w).map fun c => D.str ⟨#[c]⟩ := rfl
      rw [es]
      refine comp_map (fun c => D.str ⟨#[c]⟩) (fun c => some (.bl (decide (c ∈ ("0123456789" : Str).cps)))) (by rw [← len_tl]; omega) (fun c hc acc C ha hC => ?_) ?_
      · simp [le1__law_plain_number_e, ha]
        simpa using hC
      · rw [List.filterMap_eq_map']
        simp only []
        rw [bools_map]
        have ea := all_digits (tl w)
        by_cases ad : (tl w).all (fun c => decide (48 ≤ c) && decide (c ≤ 57)) = true
        · have hin : ¬ false ∈ (tl w).map fun c => decide (c ∈ ("0123456789" : Str).cps) := fun z => by
            rw [ad] at ea
            have := List.all_eq_true.mp ea false z
            cases this
          simp only []
          rw [if_neg hin]
          subst hR
          simp
          refine ⟨by omega, ?_⟩
          have dg := all_dig ad
          cases eN : tl w with
          | nil =>
            rw [len_tl, eN] at h1
            simp at h1
          | cons c r =>
            have hd := dg c (by rw [eN]; simp)
            have s1 : PyData.strOk ⟨#[c]⟩ = true := by
              unfold PyData.strOk
              simp
              omega
            have hi : intText? w = some ((NumText.digitsVal (tl w) : Nat) : Int) := intText_digits dg (by rw [show w.cps.toList = c :: r from eN]; simp) (by omega)
            refine ⟨c, by rw [show w.cps.toList = c :: r from eN]; exact atI_at (by decide) rfl, s1, ?_⟩
            have hf : numF w = if c = 48 ∧ 1 < w.length then none else some ((NumText.digitsVal (tl w) : Nat) : Int) := by
              unfold numF
              rw [if_pos ⟨h1, h2, ad⟩, eN]
              simp
            have fin : ¬ (c = 48 ∧ 1 < w.length) → (∃ n, intText? w = some n ∧ w.length ≤ 640 ∧ QD (Sl.v 2 (D.int n))) := fun z => by
              rw [hf, if_neg z] at q
              exact ⟨_, hi, by omega, q⟩
            have ec : ({ cps := #[c] } : Str) = ("0" : Str) ↔ c = 48 := by
              rw [zero_str]
              simp
            by_cases h0 : c = 48
            · rw [if_pos (ec.mpr h0)]
              refine ⟨by omega, ?_⟩
              by_cases h9 : 1 < w.length
              · rw [if_pos (by omega)]
                rw [hf, if_pos ⟨h0, h9⟩] at q
                exact q
              · rw [if_neg (by omega)]
                exact fin fun z => h9 z.2
            · rw [if_neg fun z => h0 (ec.mp z)]
              exact fin fun z => h0 z.1
        · have hin : false ∈ (tl w).map fun c => decide (c ∈ ("0123456789" : Str).cps) := Decidable.not_not.mp fun z => ad (by
            rw [← ea, List.all_eq_true]
            intro x hx
            cases x with
            | true => rfl
            | false => exact absurd hx z)
          simp only []
          rw [if_pos hin]
          have hf : numF w = none := by
            unfold numF
            rw [if_neg fun z => ad z.2.2]
          rw [hf] at q
          exact q
    · rw [if_pos (by omega)]
      have hf : numF w = none := by
        unfold numF
        rw [if_neg fun z => h2 z.2.1]
      rw [hf] at q
      exact q
  · rw [if_pos (em.mpr h1)]
    have hf : numF w = none := by
      unfold numF
      rw [if_neg fun z => h1 z.1]
    rw [hf] at q
    exact q
theorem pure__law_lines_due : Pure C__law_lines_due t__law_lines_due N__law_lines_due := by
  rintro ds QD ⟨t, rfl, ht, hl, q⟩
  obtain ⟨ls, last, es, ln, hp⟩ := split_nl ht
  have ef : parseF t = goF 0 (ls ++ [last]) [] := by unfold parseF; rw [es]
  have nl1 : ("\n" : Str).length = 1 := by decide +kernel
  have ok1 : PyData.strOk ("" : Str) = true := by decide +kernel
  have hpl := hp last (.inr rfl)
  unfold t__law_lines_due
  refine seq_j fun R hR => ?_
  simp [nl1, es]
  refine ⟨by omega, ?_⟩
  subst hR
  refine seq_j fun R hR => ?_
  simp
  subst hR
  refine seq_j fun R hR => ?_
  simp [-rangeL]
  refine ⟨by omega, ?_⟩
  refine for_rng (n := ls.length) (fun k τ => ∃ (acc : List Cmd) (s3 s4 s5 s6 s7 : Sl), τ = [.v 2 (.str t), .v 2 (.lst (ls.map .str ++ [.str last])), .own (cmdsD acc), s3, s4, s5, s6, s7] ∧ acc.length = k ∧ goF k (ls.drop k ++ [last]) acc = parseF t) ⟨[], _, _, _, _, _, rfl, rfl, ef.symm⟩ (fun k τ E' hk hrt _ _ hE _ h => ?_) fun τ h => ?_
  · obtain ⟨acc, s3, s4, s5, s6, s7, rfl, ha, hg⟩ := h
    rw [List.drop_eq_getElem_cons hk, List.cons_append, goF_cons] at hg
    have e1 : L2.atI (ls.map D.str ++ [D.str last]) (k : Int) = some (.str ls[k]) := by
      rw [atI_k, List.getElem?_append_left (by simpa using hk), List.getElem?_map, List.getElem?_eq_getElem hk]
      rfl
    have hpl := hp ls[k] (.inl (List.getElem_mem hk))
    generalize ls[k] = l at *
    obtain ⟨s1, s2, s3'⟩ := split_parts tl_sp k_sp hpl.1
    suffices go : ∀ d, lb2__law_lines_due E' [.v 2 (.str t), .v 2 (.lst (ls.map .str ++ [.str last])), .own (cmdsD acc), .v 2 (.int (k : Int)), s4, s5, s6, d] by simpa using go _
    intro d
    have bad : lineF l = none → E'.rt (.v 2 (.tup [.str "BadText", .int (k : Int)])) := fun z => by
      rw [z] at hg
      rw [hrt]
      show QD _
      rw [← hg] at q
      exact q
    rw [lb2__law_lines_due_e]
    refine seq_j fun R2 hR2 => ?_
    simp [e1, lit_sp]
    refine ⟨by omega, ?_⟩
    cases esl : Txt.split l (" " : Str) with
    | nil => exact absurd esl s2
    | cons w ws =>
      rw [esl] at s1 s3'
      have hw := s3' w (by simp)
      simp at s1
      have ef := lineF_of esl
      subst hR2
      refine seq_j fun R2 hR2 => ?_
      have ec : cutG (D.str w :: ws.map D.str) (some (1 : Int)) none = ws.map D.str := by rw [cutG_from _ _ (by decide)]; rfl
      simp [ec]
      refine comp_map D.str (fun w => some (oD (numF w))) (by omega) (fun x hx acc C ha hC => ?_) ?_
      · have hx2 := s3' x (by simp [hx])
        simp [le1__law_lines_due_e, ha]
        refine ⟨x, rfl, hx2.1, by omega, ?_⟩
        simpa using hC
      · rw [List.filterMap_eq_map']
        subst hR2
        obtain ⟨l1, l2⟩ := lks_oD numF ws
        have e3 := any_non numF ws
        rw [numsF_any] at e3
        have e4 : (∃ x, x ∈ ws ∧ eqB (oD (numF x)) .non = true) ↔ (numsF ws).isNone = true := by
          rw [← e3]
          simp
        simp
        by_cases h2 : ws.length = 2
        · rw [if_pos (by omega)]
          refine ⟨⟨l1, l2⟩, ?_⟩
          cases en : numsF ws with
          | none =>
            rw [if_pos (e4.mpr (by rw [en]; rfl))]
            exact bad (by rw [ef, partF_none en])
          | some ns =>
            rw [if_neg fun z => by have := e4.mp z; rw [en] at this; cases this]
            have el := numsF_len en
            have e5 := numsF_some en
            obtain ⟨a, b, rfl⟩ : ∃ a b, ns = [a, b] := by
              rw [h2] at el
              match ns, el with
              | [a, b], _ => exact ⟨a, b, rfl⟩
            obtain ⟨x, y, rfl⟩ : ∃ x y, ws = [x, y] := by
              match ws, h2 with
              | [x, y], _ => exact ⟨x, y, rfl⟩
            have e2 : lineF l = cmdOf w a b := by rw [ef, partF_two en]
            obtain ⟨it, i1, i2, i3⟩ := itm_of hw.1 a b
            simp only [List.map_cons, List.map_nil] at e5
            obtain ⟨f1, f2⟩ : oD (numF x) = .int a ∧ oD (numF y) = .int b := by simpa using e5
            simp [f1, f2]
            rw [← i1]
            refine ⟨[it], rfl, by simp, ?_⟩
            have eb : badIt 0 [it] = if it.ok = true then none else some 0 := by
              cases h : it.ok <;> simp [badIt, h]
            rw [eb, i2]
            cases ecm : cmdOf w a b with
            | none =>
              simp [oI]
              exact bad (by rw [e2, ecm])
            | some c =>
              rw [e2, ecm] at hg
              have := (i3 c ecm).1
              rw [← i1] at this
              have hn := hE _ ⟨acc ++ [c], .v 2 (.int (0 + (k : Int))), .v 2 (.lst (D.str w :: [D.str x, D.str y])), .v 2 (.lst [.int a, .int b]), .v 2 c.d, d, rfl, by simp [ha], hg⟩
              simp [oI]
              refine ⟨by omega, ?_⟩
              rw [← this]
              simpa [cmdsD] using hn
        · rw [if_neg (by omega)]
          exact bad (by rw [ef, partF_len h2])
  · obtain ⟨acc, s3, s4, s5, s6, s7, rfl, ha, hg⟩ := h
    rw [List.drop_length, List.nil_append, goF_one] at hg
    show R _
    subst hR
    simp [ok1, hpl.1]
    rw [← hg] at q
    by_cases c : last = ("" : Str)
    · rw [if_pos c] at q ⊢
      exact q
    · rw [if_neg c] at q ⊢
      exact q
theorem slice_ok {t : Str} (h : PyData.strOk t = true) (i : Int) (h0 : 0 ≤ i) : (PyData.strOk (Txt.slice t none (some i)) = true ∧ (Txt.slice t none (some i)).length = min i.toNat t.length) ∧ PyData.strOk (Txt.slice t (some i) none) = true ∧ (Txt.slice t (some i) none).length = t.length - i.toNat := by
  have e : t = S (tl t) := (mk_tl t).symm
  have hl := len_tl t
  have hm := strOk_tl.mp h
  generalize tl t = l at *
  subst e
  rw [slice_to h0, slice_from h0, S_len, S_len, S_len]
  refine ⟨⟨strOk_tl.mpr fun c hc => ?_, by rw [List.length_take]⟩, strOk_tl.mpr fun c hc => ?_, by rw [List.length_drop]⟩
  · exact hm c (List.mem_of_mem_take hc)
  · exact hm c (List.mem_of_mem_drop hc)
theorem pure__law_bent_text : Pure C__law_bent_text t__law_bent_text N__law_bent_text := by
  rintro ds QD ⟨t, ss, rfl, hne, hsl, hs, ht, hl, q⟩
  unfold t__law_bent_text
  refine seq_j fun R hR => ?_
  simp
  refine ⟨by omega, ?_⟩
  refine use_pull (n := (t.length : Int) + 1) (by omega) (by omega) fun i i0 i1 => ?_
  simp
  subst hR
  refine seq_j fun R hR => ?_
  obtain ⟨⟨a1, a2⟩, a3, a4⟩ := slice_ok ht i i0
  simp
  refine use_pull (n := 8) (by decide) (by decide) fun c c0 c1 => ?_
  simp
  by_cases hc : c = 0
  · rw [if_pos hc]
    exact ⟨by omega, q _ a1 (by omega)⟩
  · rw [if_neg hc]
    subst hR
    simp
    refine ⟨by omega, ?_⟩
    refine ⟨by simpa using imm_strs ss, by simpa using List.length_pos_iff.mpr hne, by simp; omega, fun d hd => ?_⟩
    obtain ⟨s, hm, rfl⟩ := List.mem_map.mp hd
    obtain ⟨b1, b2⟩ := hs s hm
    simp
    refine ⟨by omega, ?_⟩
    refine use_pull (n := 2) (by decide) (by decide) fun j j0 j1 => ?_
    obtain ⟨_, a5, a6⟩ := slice_ok ht (i + j) (by omega)
    simp
    refine ⟨by omega, by omega, q _ (by simp [a1, a5, b1]) (by simp; omega)⟩
theorem line_of {c : Cmd} (h : SmC c) (ok : c.ok = true) : lineF (lineT c) = some c ∧ 10 ∉ tl (lineT c) := by
  have t1 : tl ("insert" : Str) = [105, 110, 115, 101, 114, 116] := by decide +kernel
  have t2 : tl ("delete" : Str) = [100, 101, 108, 101, 116, 101] := by decide +kernel
  have n1 : ("delete" : Str) ≠ ("insert" : Str) := by decide +kernel
  cases c with
  | ins a b =>
    have f1 := free_S h.1 (c := 32) (by omega)
    have f2 := free_S h.2 (c := 32) (by omega)
    have g1 := free_S h.1 (c := 10) (by omega)
    have g2 := free_S h.2 (c := 10) (by omega)
    refine ⟨?_, by simp [lineT, tl_append, t1, tl_sp, g1, g2]⟩
    have e : Txt.split (lineT (.ins a b)) (" " : Str) = [("insert" : Str), numS a, numS b] := split3 tl_sp (by decide) (by rw [t1]; decide) f1 f2
    rw [lineF_of e, partF_two (numsF_map (ns := [a, b]) (by have h : Sm a ∧ Sm b := h; simpa using h))]
    unfold cmdOf
    rw [if_pos rfl, if_pos ok]
  | del a b =>
    have f1 := free_S h.1 (c := 32) (by omega)
    have f2 := free_S h.2 (c := 32) (by omega)
    have g1 := free_S h.1 (c := 10) (by omega)
    have g2 := free_S h.2 (c := 10) (by omega)
    refine ⟨?_, by simp [lineT, tl_append, t2, tl_sp, g1, g2]⟩
    have e : Txt.split (lineT (.del a b)) (" " : Str) = [("delete" : Str), numS a, numS b] := split3 tl_sp (by decide) (by rw [t2]; decide) f1 f2
    rw [lineF_of e, partF_two (numsF_map (ns := [a, b]) (by have h : Sm a ∧ Sm b := h; simpa using h))]
    unfold cmdOf
    rw [if_neg n1, if_pos rfl, if_pos ok]
theorem scr_split {cs : List Cmd} (h : ∀ c ∈ cs, c.ok = true ∧ SmC c) : Txt.split (scrT cs) ("\n" : Str) = cs.map lineT ++ [("" : Str)] := by
  have e : scrT cs = Txt.join ("\n" : Str) (cs.map lineT ++ [("" : Str)]) := by
    refine ext_tl ?_
    rw [tl_scr, join_eq, tl_join, tl_nl, List.map_append, List.map_cons, List.map_nil, tl_emp, joinL_lines, List.map_map, List.map_map]
    rfl
  rw [e]
  refine split_join tl_nl k_nl (by simp) fun p hp => ?_
  rcases List.mem_append.mp hp with hp | hp
  · obtain ⟨c, hc, rfl⟩ := List.mem_map.mp hp
    exact (line_of (h c hc).2 (h c hc).1).2
  · rw [List.mem_singleton.mp hp, tl_emp]
    simp
theorem goF_scr : ∀ (cs : List Cmd) (n : Nat) (acc : List Cmd), (∀ c ∈ cs, c.ok = true ∧ SmC c) → goF n (cs.map lineT ++ [("" : Str)]) acc = .inl (acc ++ cs)
  | [], n, acc, _ => by
    show goF n [("" : Str)] acc = _
    rw [goF_one, if_pos rfl, List.append_nil]
  | c :: cs, n, acc, h => by
    show goF n (lineT c :: (cs.map lineT ++ [("" : Str)])) acc = _
    rw [goF_cons, (line_of (h c (by simp)).2 (h c (by simp)).1).1]
    simp only []
    rw [goF_scr cs (n + 1) (acc ++ [c]) fun d hd => h d (by simp [hd])]
    simp
theorem parse_scr {cs : List Cmd} (h : ∀ c ∈ cs, c.ok = true ∧ SmC c) : parseF (scrT cs) = .inl cs := by
  unfold parseF
  rw [scr_split h, goF_scr cs 0 [] h]
  rfl
theorem goF_pre {r : List Str} {last : Str} : ∀ (cs : List Cmd) (n : Nat) (acc : List Cmd), (∀ c ∈ cs, c.ok = true ∧ SmC c) → goF n (cs.map lineT ++ (r ++ [last])) acc = goF (n + cs.length) (r ++ [last]) (acc ++ cs)
  | [], n, acc, _ => by simp
  | c :: cs, n, acc, h => by
    show goF n (lineT c :: (cs.map lineT ++ (r ++ [last]))) acc = _
    rw [← List.append_assoc, goF_cons, (line_of (h c (by simp)).2 (h c (by simp)).1).1]
    simp only []
    rw [List.append_assoc, goF_pre cs (n + 1) (acc ++ [c]) fun d hd => h d (by simp [hd])]
    rw [List.length_cons, List.append_assoc, show n + 1 + cs.length = n + (cs.length + 1) by omega]
    rfl
theorem parse_x {cs : List Cmd} (h : ∀ c ∈ cs, c.ok = true ∧ SmC c) : parseF (scrT cs ++ ("x\n" : Str)) = .inr cs.length := by
  have tx : tl ("x\n" : Str) = [120, 10] := by decide +kernel
  have e : scrT cs ++ ("x\n" : Str) = Txt.join ("\n" : Str) (cs.map lineT ++ [("x" : Str)] ++ [("" : Str)]) := by
    refine ext_tl ?_
    rw [tl_append, tl_scr, join_eq, tl_join, tl_nl, List.map_append, List.map_cons, List.map_nil, tl_emp, joinL_lines, List.map_map, tx]
    simp [tl_x, Function.comp_def]
  unfold parseF
  rw [e, split_join tl_nl k_nl (by simp) (fun p hp => by
    rcases List.mem_append.mp hp with hp | hp
    · rcases List.mem_append.mp hp with hp | hp
      · obtain ⟨c, hc, rfl⟩ := List.mem_map.mp hp
        exact (line_of (h c hc).2 (h c hc).1).2
      · rw [List.mem_singleton.mp hp, tl_x]
        decide
    · rw [List.mem_singleton.mp hp, tl_emp]
      simp), List.append_assoc, goF_pre cs 0 [] h]
  have e2 : lineF ("x" : Str) = none := by decide +kernel
  show goF (0 + cs.length) (("x" : Str) :: ([] ++ [("" : Str)])) _ = _
  rw [goF_cons, e2]
  simp
theorem rep_scr (n : Nat) : repS ("insert 3 1\n" : Str) n = scrT (List.replicate n (.ins 3 1)) := by
  have e : tl ("insert 3 1\n" : Str) = tl (lineT (.ins 3 1)) ++ [10] := by decide +kernel
  have key : ∀ (x : Str) (m : Nat) (a : Array Nat), ((List.replicate m x.cps).foldl (· ++ ·) a).toList = a.toList ++ (List.replicate m (tl x)).flatten := fun x m => by
    induction m with
    | zero => intro a; simp
    | succ m ih =>
      intro a
      rw [List.replicate_succ, List.foldl_cons, ih]
      simp [List.replicate_succ]
  refine ext_tl ?_
  rw [tl_scr]
  show ((List.replicate n ("insert 3 1\n" : Str).cps).foldl (· ++ ·) #[]).toList = _
  rw [key, e]
  simp
theorem lineT_ok {c : Cmd} (h : SmC c) : PyData.strOk (lineT c) = true := by
  have o1 : PyData.strOk ("insert" : Str) = true ∧ PyData.strOk ("delete" : Str) = true ∧ PyData.strOk (" " : Str) = true := by decide +kernel
  cases c with
  | ins a b => simp [lineT, o1, strOk_S h.1, strOk_S h.2]
  | del a b => simp [lineT, o1, strOk_S h.1, strOk_S h.2]
theorem scrT_ok {cs : List Cmd} (h : ∀ c ∈ cs, SmC c) : PyData.strOk (scrT cs) = true := by
  rw [strOk_tl]
  intro d hd
  rw [tl_scr] at hd
  obtain ⟨l, hl, hd⟩ := List.mem_flatten.mp hd
  obtain ⟨c, hc, rfl⟩ := List.mem_map.mp hl
  rcases List.mem_append.mp hd with hd | hd
  · exact strOk_tl.mp (lineT_ok (h c hc)) d hd
  · rw [List.mem_singleton.mp hd]; decide
theorem scrT_len {cs : List Cmd} (h : ∀ c ∈ cs, SmC c) : (scrT cs).length ≤ 45 * cs.length := by
  have a := lines_len h
  unfold scrT
  rw [join_eq, len_tl, tl_join]
  have b := joinL_len (tl ("" : Str)) ((cs.map fun c => lineT c ++ ("\n" : Str)).map tl)
  have e : (((cs.map fun c => lineT c ++ ("\n" : Str)).map tl).map List.length) = (cs.map fun c => lineT c ++ ("\n" : Str)).map (·.length) := by
    rw [List.map_map]
    refine List.map_congr_left fun x _ => ?_
    simp [len_tl]
  rw [e, tl_emp] at b
  rw [tl_emp]
  simp only [List.length_map, List.length_nil, Nat.mul_zero, Nat.add_zero] at b
  omega
end PR
/-! PLB: the drawing list is made. -/
namespace PR
open PySem PySem.Spec PyProof.Rows L2 DL
abbrev N_bag : List Str := ["_law_script", "_law_mix", "_law_figure"]
def lb_bag : DTS := (dSet 1 (dOp fMod (dOp fAdd (dOp fAdd (dOp fMul (dVar 1) (dK (.int 39373))) (dOp fMod (dVar 2) (dK (.int 2147483563)))) (dK (.int 29))) (dK (.int 2147483563))))
theorem lb_bag_e (E : DEnds) (τ : DSt) : lb_bag E τ = (dSet 1 (dOp fMod (dOp fAdd (dOp fAdd (dOp fMul (dVar 1) (dK (.int 39373))) (dOp fMod (dVar 2) (dK (.int 2147483563)))) (dK (.int 29))) (dK (.int 2147483563)))) E τ := rfl
/-- by the number that it begins with -/
def t_bag (c : Int) : DTS := (dSeq (dSet 1 (dK (.int c))) (dSeq (dFor (dSl (dVar 0) oNone (oSome (dK (.int 63)))) (gN 2) lb_bag) (dRet (dLst (aCons (dCB fList (aCons (dSl (dVar 0) oNone (oSome (dK (.int 63)))) aNil)) (aCons (dK (.int 0)) (aCons (dK (.int 0)) (aCons (dVar 1) (aCons (dK (.int 0)) aNil)))))))))
theorem loop_bag {E : DEnds} {s0 : Sl} : ∀ (ns : List Int) (m : Int) (s2 : Sl), 0 ≤ m ∧ m < 2147483563 → (∀ m s2, 0 ≤ m → m < 2147483563 → E.nx [s0, .v 2 (.int m), s2]) → forRec 2 (gN 2) lb_bag E (ns.map D.int) [s0, .v 2 (.int m), s2]
  | [], m, s2, hm, h => by simpa using h m s2 hm.1 hm.2
  | n :: ns, m, s2, hm, h => by
    have c1 : ∀ y : Int, CMul m y := fun y => .inl ⟨by omega, by omega⟩
    have hz : ∀ z : Int, 0 ≤ z % 2147483563 ∧ z % 2147483563 < 2147483563 := fun z => ⟨Int.emod_nonneg z (by decide), Int.emod_lt_of_pos z (by decide)⟩
    have ih := fun m s2 hm => loop_bag (E := E) (s0 := s0) ns m s2 hm h
    simp [lb_bag_e, c1]
    exact ih _ _ (hz _)
theorem cut_ints (ns : List Int) (l h : Option Int) : cutG (ns.map D.int) l h = (cutG ns l h).map D.int := by
  unfold cutG
  rw [List.map_take, List.map_drop, List.length_map]
theorem pure_bag (c : Int) (hc : 0 ≤ c ∧ c < 2147483563) : ∀ ds QD, C_bag ds QD → t_bag c { nx := fun _ => QD (.v 2 .non), rt := QD } (startD N_bag ds) := by
  intro ds QD h
  match ds, h with
  | [.scr ns], q =>
    simp [t_bag, cut_ints]
    refine loop_bag _ _ _ hc fun m s2 h1 h2 => ?_
    simp [cut_ints]
    exact q _ m h1 h2
theorem C_bag_len (ds : List D) (Q : Sl → Prop) (h : C_bag ds Q) : ds.length = 1 := by
  unfold C_bag at h
  split at h
  · rfl
  · exact h.elim
theorem C_of_len (ds : List D) (Q : Sl → Prop) (h : C_of ds Q) : ds.length = 2 := by
  unfold C_of at h
  split at h
  · rfl
  · exact h.elim
end PR
/-! law_k58_whole_scripts_and_their_texts: its own readings, its derivations, its head (printed by mkL.py around its plain text). -/
namespace PR
open PySem PySem.Spec PyProof.Rows L2 DL

def C__law_long_text_right : Ctr := fun ds Q => ds = [.bag] ∧ Q (.v 2 (.bl true))

abbrev N__law_long_text_right : List Str := ["_law_bag_here", "_law_many", "_law_text"]
abbrev P__law_long_text_right : List Str := ["_law_bag_here"]
def t__law_long_text_right : DTS := (dSeq (dSet 1 (dOp fAdd (dK (.int 201)) (dCall C__law_pull [] (aCons (dVar 0) (aCons (dK (.int 200)) aNil))))) (dSeq (dSet 2 (dOp fMulS (dK (.str "insert 3 1\n")) (dVar 1))) (dSeq (dIf (tvNot (tV (dCall C__law_like [] (aCons (dCall C_parse_script [] (aCons (dVar 2) aNil)) (aCons (dOp fMul (dLst (aCons (dTup (aCons (dK (.str "insert")) (aCons (dK (.int 3)) (aCons (dK (.int 1)) aNil)))) aNil)) (dVar 1)) aNil))))) (dRet (dK (.bl false))) dNext) (dRet (dOp fEq (dTold (dCallX X_parse_script [] (aCons (dOp fAdd (dVar 2) (dK (.str "x\n"))) aNil))) (dTup (aCons (dK (.str "BadText")) (aCons (dVar 1) aNil))))))))
abbrev N_law : List Str := ["_law_script_here", "_law_bag_here", "_law_turn", "_law_words", "_law_commands", "_law_text", "_law_word", "_law_one", "_law_other", "_law_again", "_law_step", "_law_bad", "_law_far"]
abbrev P_law : List Str := ["_law_script_here"]
def lb1_law : DTS := (dSet 5 (dOp fAdd (dOp fAdd (dOp fAdd (dOp fAdd (dOp fAdd (dOp fAdd (dVar 5) (dVar 6)) (dK (.str " "))) (dCB fStrI (aCons (dVar 7) aNil))) (dK (.str " "))) (dCB fStrI (aCons (dVar 8) aNil))) (dK (.str "\n"))))
theorem lb1_law_e (E : DEnds) (τ : DSt) : lb1_law E τ = (dSet 5 (dOp fAdd (dOp fAdd (dOp fAdd (dOp fAdd (dOp fAdd (dOp fAdd (dVar 5) (dVar 6)) (dK (.str " "))) (dCB fStrI (aCons (dVar 7) aNil))) (dK (.str " "))) (dCB fStrI (aCons (dVar 8) aNil))) (dK (.str "\n")))) E τ := rfl
def lb2_law : DTS := (dSeq (dSetO 3 (dLst (aCons (dCall C_script_text [] (aCons (dVar 4) aNil)) (aCons (dCall C_script_text [] (aCons (dCB fTuple (aCons (dVar 4) aNil)) aNil)) (aCons (dCall C_parse_script [] (aCons (dVar 5) aNil)) aNil))))) (dIf (tvNot (tV (dCall C__law_like [] (aCons (dVar 3) (aCons (dLst (aCons (dVar 5) (aCons (dVar 5) (aCons (dVar 4) aNil)))) aNil))))) (dRet (dK (.bl false))) dNext))
theorem lb2_law_e (E : DEnds) (τ : DSt) : lb2_law E τ = (dSeq (dSetO 3 (dLst (aCons (dCall C_script_text [] (aCons (dVar 4) aNil)) (aCons (dCall C_script_text [] (aCons (dCB fTuple (aCons (dVar 4) aNil)) aNil)) (aCons (dCall C_parse_script [] (aCons (dVar 5) aNil)) aNil))))) (dIf (tvNot (tV (dCall C__law_like [] (aCons (dVar 3) (aCons (dLst (aCons (dVar 5) (aCons (dVar 5) (aCons (dVar 4) aNil)))) aNil))))) (dRet (dK (.bl false))) dNext)) E τ := rfl
def lb3_law : DTS := (dSet 5 (dCall C__law_bent_text [] (aCons (dVar 1) (aCons (dVar 5) (aCons (dLst (aCons (dK (.str "")) (aCons (dK (.str " ")) (aCons (dK (.str "\n")) (aCons (dK (.str "0")) (aCons (dK (.str "1")) (aCons (dK (.str "-")) (aCons (dK (.str "i")) (aCons (dK (.str "insert 1 2\n")) (aCons (dK (.str "delete 2 1\n")) (aCons (dK (.str "+")) aNil))))))))))) aNil)))))
theorem lb3_law_e (E : DEnds) (τ : DSt) : lb3_law E τ = (dSet 5 (dCall C__law_bent_text [] (aCons (dVar 1) (aCons (dVar 5) (aCons (dLst (aCons (dK (.str "")) (aCons (dK (.str " ")) (aCons (dK (.str "\n")) (aCons (dK (.str "0")) (aCons (dK (.str "1")) (aCons (dK (.str "-")) (aCons (dK (.str "i")) (aCons (dK (.str "insert 1 2\n")) (aCons (dK (.str "delete 2 1\n")) (aCons (dK (.str "+")) aNil))))))))))) aNil))))) E τ := rfl
def lb4_law : DTS := (dSeq (dSetO 4 (dCall C__law_script [] (aCons (dVar 1) (aCons (dK (.int 8)) aNil)))) (dSeq (dIf (tV (dOp fEq (dCall C__law_pull [] (aCons (dVar 1) (aCons (dK (.int 2)) aNil))) (dK (.int 0)))) (dSeq (dSet 12 (dCall C__law_pull [] (aCons (dVar 1) (aCons (dOp fPow (dK (.int 10)) (dK (.int 17))) aNil)))) (dApp 4 (dTup (aCons (dK (.str "delete")) (aCons (dVar 12) (aCons (dOp fAdd (dVar 12) (dCall C__law_pull [] (aCons (dVar 1) (aCons (dOp fPow (dK (.int 10)) (dK (.int 17))) aNil)))) aNil)))))) dNext) (dSeq (dSet 5 (dK (.str ""))) (dFrz 4 (dSeq (dFor (dVar 4) (gT 3 (gsCons (gN 6) (gsCons (gN 7) (gsCons (gN 8) gsNil)))) lb1_law) (dSeq (dForR (aCons (dK (.int 2)) aNil) (gN 9) lb2_law) (dSeq (dForR (aCons (dOp fAdd (dK (.int 1)) (dCall C__law_pull [] (aCons (dVar 1) (aCons (dK (.int 2)) aNil)))) aNil) (gN 10) lb3_law) (dSeq (dIf (tvNot (tV (dCall C__law_like [] (aCons (dTold (dCallX X_parse_script [] (aCons (dVar 5) aNil))) (aCons (dCall C__law_lines_due [] (aCons (dVar 5) aNil)) aNil))))) (dRet (dK (.bl false))) dNext) (dSeq (dSetO 11 (dCB fList (aCons (dVar 4) aNil))) (dSeq (dIns 11 (dCall C__law_pull [] (aCons (dVar 1) (aCons (dOp fAdd (dCB fLen (aCons (dVar 11) aNil)) (dK (.int 1))) aNil))) (dCall C__law_odd_command [] (aCons (dVar 1) aNil))) (dIf (tV (dOp fNe (dTold (dCallX X_script_text [] (aCons (dVar 11) aNil))) (dTup (aCons (dK (.str "BadCommand")) (aCons (dCall C__law_due_command [] (aCons (dVar 11) aNil)) aNil))))) (dRet (dK (.bl false))) dNext)))))))))))
theorem lb4_law_e (E : DEnds) (τ : DSt) : lb4_law E τ = (dSeq (dSetO 4 (dCall C__law_script [] (aCons (dVar 1) (aCons (dK (.int 8)) aNil)))) (dSeq (dIf (tV (dOp fEq (dCall C__law_pull [] (aCons (dVar 1) (aCons (dK (.int 2)) aNil))) (dK (.int 0)))) (dSeq (dSet 12 (dCall C__law_pull [] (aCons (dVar 1) (aCons (dOp fPow (dK (.int 10)) (dK (.int 17))) aNil)))) (dApp 4 (dTup (aCons (dK (.str "delete")) (aCons (dVar 12) (aCons (dOp fAdd (dVar 12) (dCall C__law_pull [] (aCons (dVar 1) (aCons (dOp fPow (dK (.int 10)) (dK (.int 17))) aNil)))) aNil)))))) dNext) (dSeq (dSet 5 (dK (.str ""))) (dFrz 4 (dSeq (dFor (dVar 4) (gT 3 (gsCons (gN 6) (gsCons (gN 7) (gsCons (gN 8) gsNil)))) lb1_law) (dSeq (dForR (aCons (dK (.int 2)) aNil) (gN 9) lb2_law) (dSeq (dForR (aCons (dOp fAdd (dK (.int 1)) (dCall C__law_pull [] (aCons (dVar 1) (aCons (dK (.int 2)) aNil)))) aNil) (gN 10) lb3_law) (dSeq (dIf (tvNot (tV (dCall C__law_like [] (aCons (dTold (dCallX X_parse_script [] (aCons (dVar 5) aNil))) (aCons (dCall C__law_lines_due [] (aCons (dVar 5) aNil)) aNil))))) (dRet (dK (.bl false))) dNext) (dSeq (dSetO 11 (dCB fList (aCons (dVar 4) aNil))) (dSeq (dIns 11 (dCall C__law_pull [] (aCons (dVar 1) (aCons (dOp fAdd (dCB fLen (aCons (dVar 11) aNil)) (dK (.int 1))) aNil))) (dCall C__law_odd_command [] (aCons (dVar 1) aNil))) (dIf (tV (dOp fNe (dTold (dCallX X_script_text [] (aCons (dVar 11) aNil))) (dTup (aCons (dK (.str "BadCommand")) (aCons (dCall C__law_due_command [] (aCons (dVar 11) aNil)) aNil))))) (dRet (dK (.bl false))) dNext))))))))))) E τ := rfl
def t_law : DTS := (dSeq (dForR (aCons (dK (.int 5)) aNil) (gN 2) lb4_law) (dSeq (dIf (tvNot (tV (dCall C__law_long_text_right [] (aCons (dVar 1) aNil)))) (dRet (dK (.bl false))) dNext) (dSeq (dSetO 3 (dLst (aCons (dTold (dCallX X_parse_script [] (aCons (dK (.str "insert 1 2")) aNil))) aNil))) (dSeq (dApp 3 (dTold (dCallX X_parse_script [] (aCons (dK (.str "insert 1 2\n\n")) aNil)))) (dRet (vAnd (dOp fEq (dVar 3) (dLst (aCons (dTup (aCons (dK (.str "BadText")) (aCons (dK (.int 0)) aNil))) (aCons (dTup (aCons (dK (.str "BadText")) (aCons (dK (.int 1)) aNil))) aNil)))) (vAnd (dOp fEq (dCall C_parse_script [] (aCons (dK (.str "")) aNil)) (dLst aNil)) (dOp fEq (dCall C_script_text [] (aCons (dLst aNil) aNil)) (dK (.str ""))))))))))
abbrev N__law_bag : List Str := ["_law_script_here", "_law_mix", "_law_figure"]
abbrev P__law_bag : List Str := ["_law_script_here"]
abbrev t__law_bag : DTS := t_bag 3804
theorem pure__law_bag : Pure C__law_bag t__law_bag N__law_bag := pure_bag 3804 (by decide)

theorem use_likeD {x y : D} {Q : Sl → Prop} (e : x = y) (h1 : lk x = true) (h2 : dep x ≤ 10) (q : Q (.v 2 (.bl true))) : C__law_like [x, y] Q := by
  subst e
  exact ⟨_, rfl, h1, h2, q⟩
theorem drawn_sm {c : Cmd} (h : Drawn 12 c) : SmC c := by
  cases c <;> simp only [Drawn] at h <;> simp only [SmC, Sm] <;> omega
theorem drawn_okc {c : Cmd} (h : Drawn 12 c) : c.ok = true := by
  cases c <;> simp only [Drawn] at h <;> simp [Cmd.ok] <;> omega
theorem ok_told : PyData.strOk ("told" : Str) = true ∧ PyData.strOk ("BadText" : Str) = true ∧ PyData.strOk ("BadCommand" : Str) = true ∧ PyData.strOk ("" : Str) = true := by decide +kernel
theorem lks_cmdsX (cs : List Cmd) : lks (cmdsD cs) = true := by
  induction cs with
  | nil => rfl
  | cons c cs ih =>
    have e : lk c.d = true := by cases c <;> simp [Cmd.d] <;> decide +kernel
    show lks (c.d :: cmdsD cs) = true
    simp [e, ih]
theorem deps_cmdsX {n : Nat} (cs : List Cmd) (h : 1 ≤ n) : deps (cmdsD cs) ≤ n := by
  induction cs with
  | nil => simp [cmdsD]
  | cons c cs ih =>
    have e : dep c.d ≤ 1 := by cases c <;> simp [Cmd.d]
    show deps (c.d :: cmdsD cs) ≤ n
    simp
    omega
/-- reading a text, told -/
theorem use_told {t : Str} (h : PyData.strOk t = true) (hl : t.length ≤ 9000) {Q : Sl → Prop} {R : Er → Prop} (q1 : ∀ cs, parseF t = .inl cs → Q (.own (cmdsD cs))) (q2 : ∀ k : Nat, parseF t = .inr k → R (eBadText k)) : X_parse_script [.str t] Q R := ⟨t, rfl, h, hl, q1, q2⟩
theorem pure__law_long_text_right : Pure C__law_long_text_right t__law_long_text_right N__law_long_text_right := by
  rintro ds QD ⟨rfl, q⟩
  unfold t__law_long_text_right
  refine seq_j fun R hR => ?_
  simp
  refine use_pull (n := 200) (by decide) (by decide) fun i i0 i1 => ?_
  simp
  obtain ⟨n, hn⟩ : ∃ n : Nat, (201 : Int) + i = n := ⟨(201 + i).toNat, by omega⟩
  rw [hn]
  subst hR
  refine seq_j fun R hR => ?_
  have e10 : ("insert 3 1\n" : Str).length = 11 := by decide +kernel
  have hs : ∀ c ∈ List.replicate n (Cmd.ins 3 1), c.ok = true ∧ SmC c := fun c hc => by
    rw [(List.mem_replicate.mp hc).2]
    exact ⟨rfl, ⟨by decide, by decide⟩, by decide, by decide⟩
  have l1 : (scrT (List.replicate n (Cmd.ins 3 1))).length = 11 * n := by
    have e11 : (TL.tl (lineT (.ins 3 1)) ++ [10]).length = 11 := by decide +kernel
    rw [TL.len_tl, tl_scr, List.length_flatten, List.map_map, List.map_replicate]
    simp only [Function.comp_apply, e11, List.sum_replicate_nat]
    omega
  have o1 := scrT_ok fun c hc => (hs c hc).2
  have pr := parse_scr hs
  have px := parse_x hs
  have ln : (List.replicate n (Cmd.ins 3 1)).length = n := by simp
  have ed : cmdsD (List.replicate n (Cmd.ins 3 1)) = List.replicate n (D.tup [.str "insert", .int 3, .int 1]) := by simp [cmdsD, Cmd.d]
  rw [ln] at px
  simp [e10]
  rw [rep_scr]
  generalize List.replicate n (Cmd.ins 3 1) = cs at *
  have ex : ("x\n" : Str).length = 2 := by decide +kernel
  have ox : PyData.strOk ("x\n" : Str) = true := by decide +kernel
  refine ⟨by omega, by omega, by omega, ?_⟩
  subst hR
  refine seq_j fun R hR => ?_
  simp
  refine ⟨_, cs, rfl, o1, by omega, pr, ?_⟩
  have lk := lks_cmdsX cs
  have dp := deps_cmdsX (n := 1) cs (by decide)
  rw [← ed]
  simp
  refine ⟨by omega, by omega, by omega, ?_⟩
  refine use_likeD rfl (by simp [lk]; omega) (by simp; omega) ?_
  simp
  subst hR
  simp [ex]
  refine ⟨by omega, ?_⟩
  refine use_told (by simp [o1, ox]) (by simp [ex]; omega) (fun cs' z => by rw [px] at z; cases z) (fun k z => ?_)
  rw [px] at z
  cases z
  refine ⟨ok_badtext _, ?_⟩
  simp [ok_told]
  exact q
theorem turn2 {E : DEnds} {cs : List Cmd} (hs : ∀ c ∈ cs, c.ok = true ∧ SmC c) (hl : cs.length ≤ 9) (hE : ∀ s0 s2 s3 s6 s7 s8 s9 s10 s11 s12, E.nx [s0, .v 2 .bag, s2, s3, .v 2 (.lst (cmdsD cs)), .v 2 (.str (scrT cs)), s6, s7, s8, s9, s10, s11, s12]) : ∀ s0 s2 s3 s6 s7 s8 s9 s10 s11 s12, forRec 2 (gN 9) lb2_law E (rangeL 0 2) [s0, .v 2 .bag, s2, s3, .v 2 (.lst (cmdsD cs)), .v 2 (.str (scrT cs)), s6, s7, s8, s9, s10, s11, s12] := by
  intro s0 s2 s3 s6 s7 s8 s9 s10 s11 s12
  have l1 := scrT_len fun c hc => (hs c hc).2
  have o1 := scrT_ok fun c hc => (hs c hc).2
  have pr := parse_scr hs
  refine for_rng (n := 2) (fun k τ => ∃ s0 s2 s3 s6 s7 s8 s9 s10 s11 s12, τ = [s0, .v 2 .bag, s2, s3, .v 2 (.lst (cmdsD cs)), .v 2 (.str (scrT cs)), s6, s7, s8, s9, s10, s11, s12]) ⟨_, _, _, _, _, _, _, _, _, _, rfl⟩ (fun k τ E' hk _ _ _ hE' _ h => ?_) fun τ h => ?_
  · obtain ⟨s0, s2, s3, s6, s7, s8, s9, s10, s11, s12, rfl⟩ := h
    have hE' : ∀ s0 s2 s3 s6 s7 s8 s9 s10 s11 s12, E'.nx [s0, .v 2 .bag, s2, s3, .v 2 (.lst (cmdsD cs)), .v 2 (.str (scrT cs)), s6, s7, s8, s9, s10, s11, s12] := fun s0 s2 s3 s6 s7 s8 s9 s10 s11 s12 => hE' _ ⟨s0, s2, s3, s6, s7, s8, s9, s10, s11, s12, rfl⟩
    simp [lb2_law_e]
    refine ⟨cs, false, rfl, by omega, hs, ?_⟩
    simp
    refine ⟨cs, true, rfl, by omega, hs, ?_⟩
    simp
    refine ⟨_, cs, rfl, o1, by omega, pr, ?_⟩
    simp
    have lk := lks_cmdsX cs
    have dp := deps_cmdsX (n := 1) cs (by decide)
    refine use_likeD rfl (by simp [o1, lk]; omega) (by simp; omega) ?_
    simpa using hE' _ _ _ _ _ _ _ _ _ _
  · obtain ⟨s0, s2, s3, s6, s7, s8, s9, s10, s11, s12, rfl⟩ := h
    exact hE _ _ _ _ _ _ _ _ _ _
theorem nl1 : ("\n" : Str).length = 1 := by decide +kernel
theorem i1 : ("insert" : Str).length = 6 := by decide +kernel
theorem i2 : ("delete" : Str).length = 6 := by decide +kernel
def signs : List Str := ["", " ", "\n", "0", "1", "-", "i", "insert 1 2\n", "delete 2 1\n", "+"]
theorem signs_ok : ∀ s ∈ signs, PyData.strOk s = true ∧ s.length ≤ 11 := by decide +kernel
theorem goF_len {last : Str} : ∀ (ls : List Str) (n : Nat) (acc cs : List Cmd), goF n (ls ++ [last]) acc = .inl cs → cs.length ≤ acc.length + ls.length
  | [], n, acc, cs, h => by
    have h : goF n [last] acc = .inl cs := h
    rw [goF_one] at h
    split at h
    · cases h; simp
    · cases h
  | l :: ls, n, acc, cs, h => by
    have h : goF n (l :: (ls ++ [last])) acc = .inl cs := h
    rw [goF_cons] at h
    split at h
    · cases h
    · have := goF_len ls _ _ _ h
      simp at this ⊢
      omega
theorem parse_len {t : Str} (ht : PyData.strOk t = true) {cs : List Cmd} (h : parseF t = .inl cs) : cs.length ≤ t.length := by
  obtain ⟨ls, last, es, ln, hp⟩ := split_nl ht
  unfold parseF at h
  rw [es] at h
  have := goF_len ls 0 [] cs h
  simp at this
  omega
theorem badIt_at {it : Itm} {r : List Itm} (hit : it.ok = false) : ∀ (cs : List Cmd) (n : Nat), (∀ c ∈ cs, c.ok = true) → badIt n (cs.map Itm.cmd ++ it :: r) = some (n + cs.length)
  | [], n, _ => by
    show badIt n (it :: r) = _
    simp [badIt, hit]
  | c :: cs, n, h => by
    show badIt n (Itm.cmd c :: (cs.map Itm.cmd ++ it :: r)) = _
    have hc : (Itm.cmd c).ok = true := h c (by simp)
    unfold badIt
    rw [if_pos hc, badIt_at hit cs (n + 1) fun d hd => h d (by simp [hd]), List.length_cons, show n + 1 + cs.length = n + (cs.length + 1) by omega]
theorem px1 : parseF ("insert 1 2" : Str) = .inr 0 := by decide +kernel
theorem px2 : parseF ("insert 1 2\n\n" : Str) = .inr 1 := by decide +kernel
theorem px3 : parseF ("" : Str) = .inl [] := by decide +kernel
theorem pure_law : t_law { nx := fun _ => False, rt := fun sl => ∃ g, sl = .v g (.bl true) } (startL N_law) := by
  unfold t_law
  refine seq_j fun R hR => ?_
  simp [-rangeL]
  refine for_rng (n := 5) (fun k τ => ∃ s0 s2 s3 s4 s5 s6 s7 s8 s9 s10 s11 s12, τ = [s0, .v 2 .bag, s2, s3, s4, s5, s6, s7, s8, s9, s10, s11, s12]) ⟨_, _, _, _, _, _, _, _, _, _, _, _, rfl⟩ (fun k τ E' hk hrt _ _ hE _ h => ?_) fun τ h => ?_
  · obtain ⟨s0, s2, s3, s4, s5, s6, s7, s8, s9, s10, s11, s12, rfl⟩ := h
    have hE : ∀ s0 s2 s3 s4 s5 s6 s7 s8 s9 s10 s11 s12, E'.nx [s0, .v 2 .bag, s2, s3, s4, s5, s6, s7, s8, s9, s10, s11, s12] := fun s0 s2 s3 s4 s5 s6 s7 s8 s9 s10 s11 s12 => hE _ ⟨s0, s2, s3, s4, s5, s6, s7, s8, s9, s10, s11, s12, rfl⟩
    suffices go : ∀ d, lb4_law E' [s0, .v 2 .bag, d, s3, s4, s5, s6, s7, s8, s9, s10, s11, s12] by simpa using go _
    intro s2
    rw [lb4_law_e]
    refine seq_j fun R hR => ?_
    simp
    refine ⟨8, rfl, by decide, fun cs hl hd => ?_⟩
    simp
    subst hR
    refine seq_j fun R hR => ?_
    have hs : ∀ c ∈ cs, c.ok = true ∧ SmC c := fun c hc => ⟨drawn_okc (hd c hc), drawn_sm (hd c hc)⟩
    have next : ∀ (cs : List Cmd) (s12 : Sl), cs.length ≤ 9 → (∀ c ∈ cs, c.ok = true ∧ SmC c) → R [s0, .v 2 .bag, s2, s3, .own (cmdsD cs), s5, s6, s7, s8, s9, s10, s11, s12] := by
      intro cs s12 hl hs
      subst hR
      refine seq_j fun R hR => ?_
      simp
      subst hR
      simp only [dFrz, List.getElem?_cons_succ, List.getElem?_cons_zero, List.set_cons_succ, List.set_cons_zero]
      refine seq_j fun R hR => ?_
      simp
      refine for_map Cmd.d (fun pre τ => ∃ (s6 s7 s8 : Sl), τ = [s0, .v 2 .bag, s2, s3, .v 2 (.lst (cmdsD cs)), .v 2 (.str (scrT pre)), s6, s7, s8, s9, s10, s11, s12]) ⟨_, _, _, by rw [scrT_nil]⟩ (fun pre c post τ E2 e _ _ _ hE2 _ h => ?_) fun τ h => ?_
      · obtain ⟨s6, s7, s8, rfl⟩ := h
        have sm := (hs c (by rw [e]; simp)).2
        have l1 := scrT_len (cs := pre) fun c hc => (hs c (by rw [e]; simp [hc])).2
        have lp : pre.length ≤ 9 := by
          have := congrArg List.length e
          simp at this
          omega
        have ll := line_len sm
        have hn := fun s6 s7 s8 => hE2 _ ⟨s6, s7, s8, rfl⟩
        rw [scrT_snoc] at hn
        cases c with
        | ins a b =>
          have g1 := sm_log sm.1
          have g2 := sm_log sm.2
          have k1 := len_S sm.1
          have k2 := len_S sm.2
          have eT : scrT pre ++ lineT (.ins a b) ++ ("\n" : Str) = scrT pre ++ ("insert" : Str) ++ (" " : Str) ++ numS a ++ (" " : Str) ++ numS b ++ ("\n" : Str) := TL.ext_tl (by simp [lineT, TL.tl_append])
          rw [eT] at hn
          simp [Cmd.d, lb1_law_e, g1, g2, nl1, i1, lit_sp]
          exact ⟨by omega, by omega, by omega, by omega, by omega, by omega, by simpa using hn _ _ _⟩
        | del a b =>
          have g1 := sm_log sm.1
          have g2 := sm_log sm.2
          have k1 := len_S sm.1
          have k2 := len_S sm.2
          have eT : scrT pre ++ lineT (.del a b) ++ ("\n" : Str) = scrT pre ++ ("delete" : Str) ++ (" " : Str) ++ numS a ++ (" " : Str) ++ numS b ++ ("\n" : Str) := TL.ext_tl (by simp [lineT, TL.tl_append])
          rw [eT] at hn
          simp [Cmd.d, lb1_law_e, g1, g2, nl1, i2, lit_sp]
          exact ⟨by omega, by omega, by omega, by omega, by omega, by omega, by simpa using hn _ _ _⟩
      · obtain ⟨s6, s7, s8, rfl⟩ := h
        show R _
        subst hR
        refine seq_j fun R hR => ?_
        simp [-rangeL]
        refine turn2 hs hl (fun s0 s2 s3 s6 s7 s8 s9 s10 s11 s12 => ?_) _ _ _ _ _ _ _ _ _ _
        show R _
        rw [hR]
        clear hR R
        refine seq_j fun R hR => ?_
        simp [-rangeL]
        refine use_pull (n := 2) (by decide) (by decide) fun m m0 m1 => ?_
        have l1 := scrT_len fun c hc => (hs c hc).2
        have o1 := scrT_ok fun c hc => (hs c hc).2
        simp [-rangeL]
        refine ⟨by omega, ?_⟩
        refine for_rng (fun k τ => ∃ (t : Str) (s10 : Sl), τ = [s0, .v 2 .bag, s2, s3, .v 2 (.lst (cmdsD cs)), .v 2 (.str t), s6, s7, s8, s9, s10, s11, s12] ∧ PyData.strOk t = true ∧ t.length ≤ 405 + 11 * k) ⟨_, _, rfl, o1, by omega⟩ (fun k τ E' hk _ _ _ hE' _ h => ?_) fun τ h => ?_
        · obtain ⟨t, s10, rfl, ot, lt⟩ := h
          simp [lb3_law_e]
          refine ⟨t, signs, rfl, by decide, by decide, signs_ok, ot, by omega, fun u ou lu => ?_⟩
          have := hE' _ ⟨u, .v 2 (.int (0 + (k : Int))), rfl, ou, by omega⟩
          simpa using this
        · obtain ⟨t, s10, rfl, ot, lt⟩ := h
          show R _
          have lt : t.length ≤ 450 := by omega
          rw [hR]
          clear hR R l1 o1
          refine seq_j fun R hR => ?_
          simp
          have fin : R [s0, .v 2 .bag, s2, s3, .v 2 (.lst (cmdsD cs)), .v 2 (.str t), s6, s7, s8, s9, s10, s11, s12] := by
            rw [hR]
            clear hR R
            refine seq_j fun R hR => ?_
            simp
            subst hR
            refine seq_j fun R hR => ?_
            simp
            refine use_pull (n := (cs.length : Int) + 1) (by omega) (by omega) fun i i0 i1 => ?_
            simp
            refine ⟨rfl, fun it hit => ?_⟩
            simp
            refine ⟨by omega, by omega, by omega, ?_⟩
            have eI : (cmdsD cs).take i.toNat ++ it.d :: (cmdsD cs).drop i.toNat = itsD ((cs.take i.toNat).map Itm.cmd ++ it :: (cs.drop i.toNat).map Itm.cmd) := by
              have ec : Itm.d ∘ Itm.cmd = Cmd.d := rfl
              simp [itsD, cmdsD, ec]
            have bI := badIt_at (r := (cs.drop i.toNat).map Itm.cmd) hit (cs.take i.toNat) 0 fun c hc => (hs c (List.mem_of_mem_take hc)).1
            have lI : ((cs.take i.toNat).map Itm.cmd ++ it :: (cs.drop i.toNat).map Itm.cmd).length ≤ 20 := by simp; omega
            have sI : ∀ c, Itm.cmd c ∈ (cs.take i.toNat).map Itm.cmd ++ it :: (cs.drop i.toNat).map Itm.cmd → c.ok = true → SmC c := fun c hc ok => by
              rcases List.mem_append.mp hc with hc | hc
              · obtain ⟨d, hd, e⟩ := List.mem_map.mp hc
                injection e with e
                rw [← e]
                exact (hs d (List.mem_of_mem_take hd)).2
              · rcases List.mem_cons.mp hc with e | hc
                · rw [← e] at hit
                  have : c.ok = false := hit
                  rw [ok] at this
                  cases this
                · obtain ⟨d, hd, e⟩ := List.mem_map.mp hc
                  injection e with e
                  rw [← e]
                  exact (hs d (List.mem_of_mem_drop hd)).2
            rw [eI]
            generalize (cs.take i.toNat).map Itm.cmd ++ it :: (cs.drop i.toNat).map Itm.cmd = its at *
            subst hR
            simp
            refine ⟨its, false, rfl, by omega, sI, fun k hk => ?_, fun cs' e h => (by rw [e, badIt_ok cs' 0 h] at bI; cases bI)⟩
            refine ⟨ok_badcommand _, ?_⟩
            simp
            refine ⟨its, rfl, by omega, ?_⟩
            rw [hk]
            simp [oI, ok_told]
            exact hE _ _ _ _ _ _ _ _ _ _ _ _
          have fin2 : ∀ d, d = dueD (parseF t) → lk d = true → dep d ≤ 10 → C__law_like [d, dueD (parseF t)] (fun s => match (match s with
            | Sl.v g d => d
            | Sl.own ds => D.lst ds
            | Sl.un => D.non
            | Sl.ins c ds => D.non
            | Sl.sto g => D.non) with
            | D.bl b => if b = true then R [s0, .v 2 .bag, s2, s3, .v 2 (.lst (cmdsD cs)), .v 2 (.str t), s6, s7, s8, s9, s10, s11, s12] else E'.rt (.v 2 (.bl false))
            | x => False) := fun d e1 e2 e3 => by
            refine use_likeD e1 e2 e3 ?_
            simpa using fin
          refine use_told ot (by omega) (fun cs' z => ?_) (fun k z => ?_)
          · simp
            refine ⟨t, rfl, ot, by omega, ?_⟩
            have ln := parse_len ot z
            refine fin2 _ (by rw [z]; rfl) ?_ ?_
            · simp [ok_told, lks_cmdsX]
              omega
            · have := deps_cmdsX (n := 1) cs' (by decide)
              simp
              omega
          · refine ⟨ok_badtext _, ?_⟩
            simp
            refine ⟨t, rfl, ot, by omega, ?_⟩
            refine fin2 _ (by rw [z]; rfl) ?_ ?_
            · simp [ok_told]
            · simp
    simp
    refine use_pull (n := 2) (by decide) (by decide) fun c c0 c1 => ?_
    simp
    by_cases cz : c = 0
    · rw [if_pos cz]
      have cp : CPow 10 17 := ⟨by decide, by decide, by decide⟩
      refine ⟨cp, ?_⟩
      refine use_pull (n := 100000000000000000) (by decide) (by decide) fun f f0 f1 => ?_
      simp
      refine ⟨cp, ?_⟩
      refine use_pull (n := 100000000000000000) (by decide) (by decide) fun g g0 g1 => ?_
      simp
      refine ⟨by omega, ?_⟩
      have := next (cs ++ [.del f (f + g)]) (.v 2 (.int f)) (by simp; omega) (fun c hc => by
        rcases List.mem_append.mp hc with hc | hc
        · exact hs c hc
        · rw [List.mem_singleton.mp hc]
          refine ⟨?_, ?_⟩
          · simp [Cmd.ok]; omega
          · simp only [SmC, Sm]; omega)
      simpa [cmdsD, Cmd.d] using this
    · rw [if_neg cz]
      exact next cs _ (by omega) hs
  · obtain ⟨s0, s2, s3, s4, s5, s6, s7, s8, s9, s10, s11, s12, rfl⟩ := h
    show R _
    rw [hR]
    clear hR R
    refine seq_j fun R hR => ?_
    simp
    refine ⟨rfl, ?_⟩
    simp
    subst hR
    refine seq_j fun R hR => ?_
    simp
    refine use_told (by decide +kernel) (by decide +kernel) (fun cs z => by rw [px1] at z; cases z) (fun k z => ?_)
    rw [px1] at z
    cases z
    refine ⟨ok_badtext _, ?_⟩
    simp
    subst hR
    refine seq_j fun R hR => ?_
    simp
    refine use_told (by decide +kernel) (by decide +kernel) (fun cs z => by rw [px2] at z; cases z) (fun k z => ?_)
    rw [px2] at z
    cases z
    refine ⟨ok_badtext _, ?_⟩
    simp
    subst hR
    simp [ok_told]
    refine ⟨_, [], rfl, ok_told.2.2.2, by decide +kernel, px3, ?_⟩
    simp [cmdsD]
    refine ⟨[], false, rfl, by decide, by simp, ?_⟩
    rw [scrT_nil]
    simp [ok_told]

/-! ### derivations -/
theorem sc__law_bag : FnScope N__law_bag P__law_bag (defScope s__law_bag) := ⟨rfl, rfl, rfl, by decide +kernel, rfl, by decide +kernel, by decide +kernel⟩
theorem w__law_bag {P : Program} {w : World} {K : PySem.W.Frag} {T : Tab} {mg : Str → Option Value} {base : Heap} (hB : Bl mg) {cdv : Value} {A : Around} {outer : List Env} {s : Shared} {H : Hp} {E : XK} {f : Addr} (hr : Room 0 (A.deeper (envOfC "_law_bag" (defScope s__law_bag) s.heap.objs.size f cdv))) :
    PSs ((cxOf CX0 P w K mg base N__law_bag "_law_bag" (defScope s__law_bag) f cdv A outer s H E).nox) (defBody s__law_bag) (UpS K T ⟨mg, E⟩ t__law_bag) :=
  (ds_cons (ds_set (i := 1) sc__law_bag.nd rfl (.inl rfl) de_int) (ds_cons (ds_for PassesOwn.never rfl (de_sl (de_var (i := 0) rfl (.inl rfl)) do_none (do_some de_int)) (dg_name sc__law_bag.nd rfl (.inl rfl)) (ds_one (ds_set (i := 1) sc__law_bag.nd rfl (.inl rfl) (de_mod (de_add (de_add (de_mul (de_var (i := 1) rfl (.inl rfl)) de_int) (de_mod (de_var (i := 2) rfl (.inl rfl)) de_int)) de_int) de_int)))) (ds_one (ds_ret (de_lst (da_cons (de_cb cb_list (pe_callTy call_list_of rfl hB.list_ (by decide +kernel) (da_cons (de_sl (de_var (i := 0) rfl (.inl rfl)) do_none (do_some de_int)) da_nil))) (da_cons de_int (da_cons de_int (da_cons (de_var (i := 1) rfl (.inl rfl)) (da_cons de_int da_nil))))))))))
theorem F__law_bag {P : Program} {w : World} {K : PySem.W.Frag} {T : Tab} {mg : Str → Option Value} {base : Heap} {f : Addr} {fd : FuncData} (F : FunD K "_law_bag" "_law_bag" (defArgs s__law_bag) (defBody s__law_bag) (defScope s__law_bag) [] [] f fd) (m : mg "_law_bag" = some (.ref f)) (hB : Bl mg) : Fn P w K T mg base "_law_bag" 1 [] C__law_bag := fn_mk F m (fn_ok F sc__law_bag C__law_bag t__law_bag (fun ds QD h => by first | exact C_bag_len ds QD h | exact C_of_len ds QD h | (obtain ⟨rfl, _⟩ := h; rfl) | (obtain ⟨_, rfl, _⟩ := h; rfl) | (obtain ⟨_, _, rfl, _⟩ := h; rfl) | (obtain ⟨_, _, _, rfl, _⟩ := h; rfl) | (obtain ⟨_, _, _, _, rfl, _⟩ := h; rfl) | (match ds, h with | [_], _ => rfl) | (match ds, h with | [_, _], _ => rfl)) (fun cdv A outer s H E hr => w__law_bag hB hr) pure__law_bag) (fun _ _ _ _ _ _ us hl => match us, hl with | [_], _ => rfl)
theorem sc__law_pull : FnScope N__law_pull P__law_pull (defScope s__law_pull) := ⟨rfl, rfl, rfl, by decide +kernel, rfl, by decide +kernel, by decide +kernel⟩
theorem w__law_pull {P : Program} {w : World} {K : PySem.W.Frag} {T : Tab} {mg : Str → Option Value} {base : Heap} (hB : Bl mg) {cdv : Value} {A : Around} {outer : List Env} {s : Shared} {H : Hp} {E : XK} {f : Addr} (hr : Room 0 (A.deeper (envOfC "_law_pull" (defScope s__law_pull) s.heap.objs.size f cdv))) :
    PSs ((cxOf CX0 P w K mg base N__law_pull "_law_pull" (defScope s__law_pull) f cdv A outer s H E).nox) (defBody s__law_pull) (UpS K T ⟨mg, E⟩ t__law_pull) :=
  (ds_cons (ds_asg (de_add (de_bg (j := 4) rfl rfl (.inl rfl)) de_int) (dg_bg (j := 4) rfl rfl (.inl rfl))) (ds_cons (ds_if (PW.pt (dw_and (dt_cmp (op_eqD (u64 hr)) r2_eq (de_bg (j := 2) rfl rfl (.inl rfl)) de_int (nomark _)) (dw_and1 (dt_cmp op_lt (r2_I0 fun _ _ => rfl) (de_bg (j := 1) rfl rfl (.inl rfl)) (de_cb cb_len (pe_callB call_len_seq rfl hB.len_ (by decide +kernel) (da_cons (de_bg (j := 0) rfl rfl (.inl rfl)) da_nil))) (nomark _))))) (ds_cons (ds_set (i := 3) sc__law_pull.nd rfl (.inl rfl) (de_ixE (de_bg (j := 0) rfl rfl (.inl rfl)) (de_bg (j := 1) rfl rfl (.inl rfl)) (fun _ _ => rfl))) (ds_cons (ds_asg (de_add (de_bg (j := 1) rfl rfl (.inl rfl)) de_int) (dg_bg (j := 1) rfl rfl (.inl rfl))) (ds_one (ds_if (dt_cmp op_ge (r2_I0 fun _ _ => rfl) (de_var (i := 3) rfl (.inl rfl)) (de_pow de_int de_int) (nomark _)) (ds_one (ds_asg (de_var (i := 3) rfl (.inl rfl)) (dg_bg (j := 2) rfl rfl (.inl rfl)))) (ds_cons (ds_set (i := 2) sc__law_pull.nd rfl (.inl rfl) (de_add (de_mul (de_bg (j := 3) rfl rfl (.inl rfl)) de_int) (de_mul (de_mod (de_var (i := 3) rfl (.inl rfl)) de_int) de_int))) (ds_one (ds_asg (de_mod (de_add (de_var (i := 2) rfl (.inl rfl)) de_int) de_int) (dg_bg (j := 3) rfl rfl (.inl rfl))))))))) ds_nil) (ds_cons (ds_if (dt_cmp op_gt (r2_I0 fun _ _ => rfl) (de_bg (j := 2) rfl rfl (.inl rfl)) de_int (nomark _)) (ds_cons (ds_set (i := 4) sc__law_pull.nd rfl (.inl rfl) (de_mod (de_bg (j := 2) rfl rfl (.inl rfl)) (de_var (i := 1) rfl (.inl rfl)))) (ds_cons (ds_asg (de_fdiv (de_bg (j := 2) rfl rfl (.inl rfl)) (de_var (i := 1) rfl (.inl rfl))) (dg_bg (j := 2) rfl rfl (.inl rfl))) (ds_one (ds_retB (de_var (i := 4) rfl (.inl rfl)))))) ds_nil) (ds_cons (ds_set (i := 2) sc__law_pull.nd rfl (.inl rfl) (de_add (de_mul (de_mul (de_bg (j := 3) rfl rfl (.inl rfl)) (de_bg (j := 3) rfl rfl (.inl rfl))) de_int) (de_mul (de_bg (j := 3) rfl rfl (.inl rfl)) de_int))) (ds_cons (ds_asg (de_mod (de_add (de_var (i := 2) rfl (.inl rfl)) (de_mul de_int (de_bg (j := 4) rfl rfl (.inl rfl)))) de_int) (dg_bg (j := 3) rfl rfl (.inl rfl))) (ds_one (ds_retB (de_mod (de_fdiv (de_bg (j := 3) rfl rfl (.inl rfl)) de_int) (de_var (i := 1) rfl (.inl rfl))))))))))
theorem F__law_pull {P : Program} {w : World} {K : PySem.W.Frag} {T : Tab} {mg : Str → Option Value} {base : Heap} {f : Addr} {fd : FuncData} (F : FunD K "_law_pull" "_law_pull" (defArgs s__law_pull) (defBody s__law_pull) (defScope s__law_pull) [] [] f fd) (m : mg "_law_pull" = some (.ref f)) (hB : Bl mg) : Fn P w K T mg base "_law_pull" 1 [] C_pull := fn_mk F m (pull_ok F sc__law_pull t__law_pull rfl (fun cdv A outer s H E hr => w__law_pull hB hr) pure__law_pull) (fun _ _ _ _ _ _ us hl => match us, hl with | [_, _], _ => rfl)
theorem sc__law_of : FnScope N__law_of P__law_of (defScope s__law_of) := ⟨rfl, rfl, rfl, by decide +kernel, rfl, by decide +kernel, by decide +kernel⟩
theorem w__law_of {P : Program} {w : World} {K : PySem.W.Frag} {T : Tab} {mg : Str → Option Value} {base : Heap} (D__law_pull : Fn P w K T mg base "_law_pull" 1 [] C__law_pull) (hB : Bl mg) {cdv : Value} {A : Around} {outer : List Env} {s : Shared} {H : Hp} {E : XK} {f : Addr} (hr : Room 1 (A.deeper (envOfC "_law_of" (defScope s__law_of) s.heap.objs.size f cdv))) :
    PSs ((cxOf CX0 P w K mg base N__law_of "_law_of" (defScope s__law_of) f cdv A outer s H E).nox) (defBody s__law_of) (UpS K T ⟨mg, E⟩ t__law_of) :=
  (ds_one (ds_ret (de_ixE (de_var (i := 1) rfl (.inl rfl)) (de_fn D__law_pull (hr.mono (by decide)) rfl (da_cons (de_var (i := 0) rfl (.inl rfl)) (da_cons (de_cb cb_len (pe_callB call_len_seq rfl hB.len_ (by decide +kernel) (da_cons (de_var (i := 1) rfl (.inl rfl)) da_nil))) da_nil))) (fun _ _ => rfl))))
theorem F__law_of {P : Program} {w : World} {K : PySem.W.Frag} {T : Tab} {mg : Str → Option Value} {base : Heap} {f : Addr} {fd : FuncData} (F : FunD K "_law_of" "_law_of" (defArgs s__law_of) (defBody s__law_of) (defScope s__law_of) [] [] f fd) (m : mg "_law_of" = some (.ref f)) (D__law_pull : Fn P w K T mg base "_law_pull" 1 [] C__law_pull) (hB : Bl mg) : Fn P w K T mg base "_law_of" 2 [] C__law_of := fn_mk F m (fn_ok F sc__law_of C__law_of t__law_of (fun ds QD h => by first | exact C_bag_len ds QD h | exact C_of_len ds QD h | (obtain ⟨rfl, _⟩ := h; rfl) | (obtain ⟨_, rfl, _⟩ := h; rfl) | (obtain ⟨_, _, rfl, _⟩ := h; rfl) | (obtain ⟨_, _, _, rfl, _⟩ := h; rfl) | (obtain ⟨_, _, _, _, rfl, _⟩ := h; rfl) | (match ds, h with | [_], _ => rfl) | (match ds, h with | [_, _], _ => rfl)) (fun cdv A outer s H E hr => w__law_of D__law_pull hB hr) pure__law_of) (fun _ _ _ _ _ _ us hl => match us, hl with | [_, _], _ => rfl)
theorem sc__law_command : FnScope N__law_command P__law_command (defScope s__law_command) := ⟨rfl, rfl, rfl, by decide +kernel, rfl, by decide +kernel, by decide +kernel⟩
theorem w__law_command {P : Program} {w : World} {K : PySem.W.Frag} {T : Tab} {mg : Str → Option Value} {base : Heap} (D__law_pull : Fn P w K T mg base "_law_pull" 1 [] C__law_pull) (D__law_of : Fn P w K T mg base "_law_of" 2 [] C__law_of) {cdv : Value} {A : Around} {outer : List Env} {s : Shared} {H : Hp} {E : XK} {f : Addr} (hr : Room 2 (A.deeper (envOfC "_law_command" (defScope s__law_command) s.heap.objs.size f cdv))) :
    PSs ((cxOf CX0 P w K mg base N__law_command "_law_command" (defScope s__law_command) f cdv A outer s H E).nox) (defBody s__law_command) (UpS K T ⟨mg, E⟩ t__law_command) :=
  (ds_cons (ds_set (i := 2) sc__law_command.nd rfl (.inl rfl) (de_fn D__law_pull (hr.mono (by decide)) rfl (da_cons (de_var (i := 0) rfl (.inl rfl)) (da_cons (de_fn D__law_of (hr.mono (by decide)) rfl (da_cons (de_var (i := 0) rfl (.inl rfl)) (da_cons (de_lst (da_cons de_int (da_cons de_int (da_cons (de_var (i := 1) rfl (.inl rfl)) da_nil)))) da_nil))) da_nil)))) (ds_cons (ds_if (dt_cmp (op_eqD (u64 hr)) r2_eq (de_fn D__law_pull (hr.mono (by decide)) rfl (da_cons (de_var (i := 0) rfl (.inl rfl)) (da_cons de_int da_nil))) de_int (nomark _)) (ds_one (ds_ret (de_tup (da_cons de_str (da_cons (de_var (i := 2) rfl (.inl rfl)) (da_cons (de_fn D__law_of (hr.mono (by decide)) rfl (da_cons (de_var (i := 0) rfl (.inl rfl)) (da_cons (de_lst (da_cons de_int (da_cons de_int (da_cons de_int (da_cons de_int da_nil))))) da_nil))) da_nil)))))) ds_nil) (ds_one (ds_ret (de_tup (da_cons de_str (da_cons (de_var (i := 2) rfl (.inl rfl)) (da_cons (de_add (de_var (i := 2) rfl (.inl rfl)) (de_fn D__law_of (hr.mono (by decide)) rfl (da_cons (de_var (i := 0) rfl (.inl rfl)) (da_cons (de_lst (da_cons de_int (da_cons de_int (da_cons de_int (da_cons de_int da_nil))))) da_nil)))) da_nil))))))))
theorem F__law_command {P : Program} {w : World} {K : PySem.W.Frag} {T : Tab} {mg : Str → Option Value} {base : Heap} {f : Addr} {fd : FuncData} (F : FunD K "_law_command" "_law_command" (defArgs s__law_command) (defBody s__law_command) (defScope s__law_command) [] [] f fd) (m : mg "_law_command" = some (.ref f)) (D__law_pull : Fn P w K T mg base "_law_pull" 1 [] C__law_pull) (D__law_of : Fn P w K T mg base "_law_of" 2 [] C__law_of) : Fn P w K T mg base "_law_command" 3 [] C__law_command := fn_mk F m (fn_ok F sc__law_command C__law_command t__law_command (fun ds QD h => by first | exact C_bag_len ds QD h | exact C_of_len ds QD h | (obtain ⟨rfl, _⟩ := h; rfl) | (obtain ⟨_, rfl, _⟩ := h; rfl) | (obtain ⟨_, _, rfl, _⟩ := h; rfl) | (obtain ⟨_, _, _, rfl, _⟩ := h; rfl) | (obtain ⟨_, _, _, _, rfl, _⟩ := h; rfl) | (match ds, h with | [_], _ => rfl) | (match ds, h with | [_, _], _ => rfl)) (fun cdv A outer s H E hr => w__law_command D__law_pull D__law_of hr) pure__law_command) (fun _ _ _ _ _ _ us hl => match us, hl with | [_, _], _ => rfl)
theorem sc__law_script : FnScope N__law_script P__law_script (defScope s__law_script) := ⟨rfl, rfl, rfl, by decide +kernel, rfl, by decide +kernel, by decide +kernel⟩
theorem w__law_script {P : Program} {w : World} {K : PySem.W.Frag} {T : Tab} {mg : Str → Option Value} {base : Heap} (D__law_pull : Fn P w K T mg base "_law_pull" 1 [] C__law_pull) (hB : Bl mg) (D__law_command : Fn P w K T mg base "_law_command" 3 [] C__law_command) {cdv : Value} {A : Around} {outer : List Env} {s : Shared} {H : Hp} {E : XK} {f : Addr} (hr : Room 3 (A.deeper (envOfC "_law_script" (defScope s__law_script) s.heap.objs.size f cdv))) :
    PSs ((cxOf CX0 P w K mg base N__law_script "_law_script" (defScope s__law_script) f cdv A outer s H E).nox) (defBody s__law_script) (UpS K T ⟨mg, E⟩ t__law_script) :=
  (ds_one (ds_ret (de_lcG (own := [("_law_k", 2)]) (fun _ _ _ => lc_up1) rfl sc__law_script.nd (pi_range1 rfl hB.range_ (da_cons (de_fn D__law_pull (hr.mono (by decide)) rfl (da_cons (de_var (i := 0) rfl (.inr (.inl rfl))) (da_cons (de_add (de_var (i := 1) rfl (.inl rfl)) de_int) da_nil))) da_nil)) (blkOk_by rfl) (fun _ _ _ _ _ => (dgw_name (by decide) sc__law_script.nd rfl (.inl rfl))) (fun _ _ _ _ _ => dts_nil) (fun _ _ _ _ _ => (de_fn D__law_command (hr.mono (by decide)) rfl (da_cons (de_var (i := 0) rfl (.inr (.inl rfl))) (da_cons de_int da_nil)))))))
theorem F__law_script {P : Program} {w : World} {K : PySem.W.Frag} {T : Tab} {mg : Str → Option Value} {base : Heap} {f : Addr} {fd : FuncData} (F : FunD K "_law_script" "_law_script" (defArgs s__law_script) (defBody s__law_script) (defScope s__law_script) [] [] f fd) (m : mg "_law_script" = some (.ref f)) (D__law_pull : Fn P w K T mg base "_law_pull" 1 [] C__law_pull) (hB : Bl mg) (D__law_command : Fn P w K T mg base "_law_command" 3 [] C__law_command) : Fn P w K T mg base "_law_script" 4 [] C__law_script := fn_mk F m (fn_ok F sc__law_script C__law_script t__law_script (fun ds QD h => by first | exact C_bag_len ds QD h | exact C_of_len ds QD h | (obtain ⟨rfl, _⟩ := h; rfl) | (obtain ⟨_, rfl, _⟩ := h; rfl) | (obtain ⟨_, _, rfl, _⟩ := h; rfl) | (obtain ⟨_, _, _, rfl, _⟩ := h; rfl) | (obtain ⟨_, _, _, _, rfl, _⟩ := h; rfl) | (match ds, h with | [_], _ => rfl) | (match ds, h with | [_, _], _ => rfl)) (fun cdv A outer s H E hr => w__law_script D__law_pull hB D__law_command hr) pure__law_script) (fun _ _ _ _ _ _ us hl => match us, hl with | [_, _], _ => rfl)
theorem sc__law_like : FnScope N__law_like P__law_like (defScope s__law_like) := ⟨rfl, rfl, rfl, by decide +kernel, rfl, by decide +kernel, by decide +kernel⟩
theorem w__law_like {P : Program} {w : World} {K : PySem.W.Frag} {T : Tab} {mg : Str → Option Value} {base : Heap} {k : Nat} {CR : Ctr} (hB : Bl mg) (D__law_like : Fn P w K T mg base "_law_like" k [] CR) {cdv : Value} {A : Around} {outer : List Env} {s : Shared} {H : Hp} {E : XK} {f : Addr} (hr : Room k (A.deeper (envOfC "_law_like" (defScope s__law_like) s.heap.objs.size f cdv))) :
    PSs (cxOf CX0 P w K mg base N__law_like "_law_like" (defScope s__law_like) f cdv A outer s H E).nox (defBody s__law_like) (UpS K T ⟨mg, E⟩ (t__law_like CR)) :=
  (ds_cons (ds_if (dt_val (de_isI2 .tup .lst rfl hB.isinstance_ rfl hB.tuple_ (by decide +kernel) rfl hB.list_ (by decide +kernel) (de_var (i := 1) rfl (.inr (.inl rfl))) (by decide) (by decide) (by decide) (by decide) rfl rfl (pa_cons (de_var (i := 1) rfl (.inr (.inl rfl))) (pa_cons (pe_tup (pa_cons (pe_bltn rfl hB.tuple_ (by decide +kernel) rfl) (pa_cons (pe_bltn rfl hB.list_ (by decide +kernel) rfl) pa_nil))) pa_nil)))) (ds_cons (ds_if (PW.pt (dw_or (dt_cmp (op_neD (u64 hr)) r2_ne (de_isI .tup rfl hB.isinstance_ rfl hB.tuple_ (by decide +kernel) (de_var (i := 0) rfl (.inr (.inl rfl))) (by decide) (by decide) rfl rfl (pa_cons (de_var (i := 0) rfl (.inr (.inl rfl))) (pa_cons (pe_bltn rfl hB.tuple_ (by decide +kernel) rfl) pa_nil))) (de_isI .tup rfl hB.isinstance_ rfl hB.tuple_ (by decide +kernel) (de_var (i := 1) rfl (.inr (.inl rfl))) (by decide) (by decide) rfl rfl (pa_cons (de_var (i := 1) rfl (.inr (.inl rfl))) (pa_cons (pe_bltn rfl hB.tuple_ (by decide +kernel) rfl) pa_nil))) (nomark _)) (dw_or1 (dt_cmp (op_neD (u64 hr)) r2_ne (de_isI .lst rfl hB.isinstance_ rfl hB.list_ (by decide +kernel) (de_var (i := 0) rfl (.inr (.inl rfl))) (by decide) (by decide) rfl rfl (pa_cons (de_var (i := 0) rfl (.inr (.inl rfl))) (pa_cons (pe_bltn rfl hB.list_ (by decide +kernel) rfl) pa_nil))) (de_isI .lst rfl hB.isinstance_ rfl hB.list_ (by decide +kernel) (de_var (i := 1) rfl (.inr (.inl rfl))) (by decide) (by decide) rfl rfl (pa_cons (de_var (i := 1) rfl (.inr (.inl rfl))) (pa_cons (pe_bltn rfl hB.list_ (by decide +kernel) rfl) pa_nil))) (nomark _))))) (ds_one (ds_ret de_bool)) ds_nil) (ds_one (ds_ret (de_and (de_cmp (op_eqD (u64 hr)) r2_eq (de_cb cb_len (pe_callB call_len_seq rfl hB.len_ (by decide +kernel) (da_cons (de_var (i := 0) rfl (.inr (.inl rfl))) da_nil))) (de_cb cb_len (pe_callB call_len_seq rfl hB.len_ (by decide +kernel) (da_cons (de_var (i := 1) rfl (.inr (.inl rfl))) da_nil))) (nomark _)) (de_one (de_cb cb_all (pe_callB (cr_all rfl) rfl hB.all_ (by decide +kernel) (da_cons (de_lcG (own := [("_law_k", 2)]) (fun _ _ _ => lc_up1) rfl sc__law_like.nd (pi_range1 rfl hB.range_ (da_cons (de_cb cb_len (pe_callB call_len_seq rfl hB.len_ (by decide +kernel) (da_cons (de_var (i := 1) rfl (.inr (.inl rfl))) da_nil))) da_nil)) (blkOk_by rfl) (fun _ _ _ _ _ => (dgw_name (by decide) sc__law_like.nd rfl (.inl rfl))) (fun _ _ _ _ _ => dts_nil) (fun _ _ _ _ _ => (de_fn D__law_like hr rfl (da_cons (de_ixE (de_var (i := 0) rfl (.inr (.inl rfl))) (de_var (i := 2) rfl (.inl rfl)) (fun _ _ => rfl)) (da_cons (de_ixE (de_var (i := 1) rfl (.inr (.inl rfl))) (de_var (i := 2) rfl (.inl rfl)) (fun _ _ => rfl)) da_nil))))) da_nil)))))))) ds_nil) (ds_cons (ds_if (PW.pt (dw_or (dt_isN (de_var (i := 1) rfl (.inr (.inl rfl)))) (dw_or1 (dt_isN (de_var (i := 0) rfl (.inr (.inl rfl))))))) (ds_one (ds_ret (de_and (de_isN (de_var (i := 1) rfl (.inr (.inl rfl)))) (de_one (de_isN (de_var (i := 0) rfl (.inr (.inl rfl)))))))) ds_nil) (ds_one (ds_ret (de_and (de_cmp (op_eqD (u64 hr)) r2_eq (de_isI .bool rfl hB.isinstance_ rfl hB.bool_ (by decide +kernel) (de_var (i := 0) rfl (.inr (.inl rfl))) (by decide) (by decide) rfl rfl (pa_cons (de_var (i := 0) rfl (.inr (.inl rfl))) (pa_cons (pe_bltn rfl hB.bool_ (by decide +kernel) rfl) pa_nil))) (de_isI .bool rfl hB.isinstance_ rfl hB.bool_ (by decide +kernel) (de_var (i := 1) rfl (.inr (.inl rfl))) (by decide) (by decide) rfl rfl (pa_cons (de_var (i := 1) rfl (.inr (.inl rfl))) (pa_cons (pe_bltn rfl hB.bool_ (by decide +kernel) rfl) pa_nil))) (nomark _)) (de_one (de_cmp (op_eqD (u64 hr)) r2_eq (de_var (i := 0) rfl (.inr (.inl rfl))) (de_var (i := 1) rfl (.inr (.inl rfl))) (nomark _))))))))
theorem F__law_like {P : Program} {w : World} {K : PySem.W.Frag} {T : Tab} {mg : Str → Option Value} {base : Heap} {f : Addr} {fd : FuncData} (F : FunD K "_law_like" "_law_like" (defArgs s__law_like) (defBody s__law_like) (defScope s__law_like) [] [] f fd) (m : mg "_law_like" = some (.ref f)) (hB : Bl mg) : ∀ n : Nat, Fn P w K T mg base "_law_like" (n + 2) [] (C_like n)
  | 0 => fn_mk F m (fn_ok F sc__law_like (C_like 0) (t__law_like fun _ _ => False) (fun ds QD h => by first | exact C_bag_len ds QD h | exact C_of_len ds QD h | (obtain ⟨rfl, _⟩ := h; rfl) | (obtain ⟨_, rfl, _⟩ := h; rfl) | (obtain ⟨_, _, rfl, _⟩ := h; rfl) | (obtain ⟨_, _, _, rfl, _⟩ := h; rfl) | (obtain ⟨_, _, _, _, rfl, _⟩ := h; rfl) | (match ds, h with | [_], _ => rfl) | (match ds, h with | [_, _], _ => rfl)) (fun cdv A outer s H E hr => w__law_like hB (fn_mk F m (fn_false F sc__law_like) (fun _ _ _ _ _ _ us hl => match us, hl with | [_, _], _ => rfl)) hr) like_zero) (fun _ _ _ _ _ _ us hl => match us, hl with | [_, _], _ => rfl)
  | n + 1 => fn_mk F m (fn_ok F sc__law_like (C_like (n + 1)) (t__law_like (C_like n)) (fun ds QD h => by first | exact C_bag_len ds QD h | exact C_of_len ds QD h | (obtain ⟨rfl, _⟩ := h; rfl) | (obtain ⟨_, rfl, _⟩ := h; rfl) | (obtain ⟨_, _, rfl, _⟩ := h; rfl) | (obtain ⟨_, _, _, rfl, _⟩ := h; rfl) | (obtain ⟨_, _, _, _, rfl, _⟩ := h; rfl) | (match ds, h with | [_], _ => rfl) | (match ds, h with | [_, _], _ => rfl)) (fun cdv A outer s H E hr => w__law_like hB (F__law_like F m hB n) hr) (like_step n)) (fun _ _ _ _ _ _ us hl => match us, hl with | [_, _], _ => rfl)
theorem sc_number_in : FnScope N_number_in P_number_in (defScope s_number_in) := ⟨rfl, rfl, rfl, by decide +kernel, rfl, by decide +kernel, by decide +kernel⟩
theorem w_number_in {P : Program} {w : World} {K : PySem.W.Frag} {T : Tab} {mg : Str → Option Value} {base : Heap} (hB : Bl mg) (K_MOST_DIGITS : Cst K T mg "MOST_DIGITS" (.int 18)) (K_DIGITS : Cst K T mg "DIGITS" (.str "0123456789")) {cdv : Value} {A : Around} {outer : List Env} {s : Shared} {H : Hp} {E : XK} {f : Addr} (hr : Room 0 (A.deeper (envOfC "number_in" (defScope s_number_in) s.heap.objs.size f cdv))) :
    PSs ((cxOf CX0 P w K mg base N_number_in "number_in" (defScope s_number_in) f cdv A outer s H E).nox) (defBody s_number_in) (UpS K T ⟨mg, E⟩ t_number_in) :=
  (ds_cons (ds_if (PW.pt (dw_or (dt_not (dt_chain op_le op_le de_int (de_cb cb_lenS (pe_callB call_len_str rfl hB.len_ (by decide +kernel) (da_cons (de_var (i := 0) rfl (.inl rfl)) da_nil))) (de_cst K_MOST_DIGITS rfl) (pt_chain op_le op_le de_int (de_cb cb_lenS (pe_callB call_len_str rfl hB.len_ (by decide +kernel) (da_cons (de_var (i := 0) rfl (.inl rfl)) da_nil))) (de_cst K_MOST_DIGITS rfl)))) (dw_or1 (dt_not (dt_val (de_cb cb_all (pe_callB (cr_all rfl) rfl hB.all_ (by decide +kernel) (da_cons (de_lcG (own := [("char", 1)]) (fun _ _ _ => lc_upS) rfl sc_number_in.nd (pi_str (de_var (i := 0) rfl (.inl rfl))) (blkOk_by rfl) (fun _ _ _ _ _ => (dgw_name (by decide) sc_number_in.nd rfl (.inl rfl))) (fun _ _ _ _ _ => dts_nil) (fun _ _ _ _ _ => (de_cmp L2.op_in_sign r2_inS (de_var (i := 1) rfl (.inl rfl)) (de_cst K_DIGITS rfl) rfl))) da_nil)))))))) (ds_one (ds_ret de_none)) ds_nil) (ds_one (ds_ret (de_ifExp (PW.pt (dw_and (dt_cmp (op_eqD (u64 hr)) r2_eq (de_ixS (de_var (i := 0) rfl (.inl rfl)) de_int (fun _ _ => rfl)) de_str (nomark _)) (dw_and1 (dt_cmp (op_neD (u64 hr)) r2_ne (de_var (i := 0) rfl (.inl rfl)) de_str (nomark _))))) de_none (de_cb cb_intS (pe_callTy call_int_str rfl hB.int_ (by decide +kernel) (da_cons (de_var (i := 0) rfl (.inl rfl)) da_nil)))))))
theorem F_number_in {P : Program} {w : World} {K : PySem.W.Frag} {T : Tab} {mg : Str → Option Value} {base : Heap} {f : Addr} {fd : FuncData} (F : FunD K "number_in" "number_in" (defArgs s_number_in) (defBody s_number_in) (defScope s_number_in) [] [] f fd) (m : mg "number_in" = some (.ref f)) (hB : Bl mg) (K_MOST_DIGITS : Cst K T mg "MOST_DIGITS" (.int 18)) (K_DIGITS : Cst K T mg "DIGITS" (.str "0123456789")) : Fn P w K T mg base "number_in" 1 [] C_number_in := fn_mk F m (fn_ok F sc_number_in C_number_in t_number_in (fun ds QD h => by first | exact C_bag_len ds QD h | exact C_of_len ds QD h | (obtain ⟨rfl, _⟩ := h; rfl) | (obtain ⟨_, rfl, _⟩ := h; rfl) | (obtain ⟨_, _, rfl, _⟩ := h; rfl) | (obtain ⟨_, _, _, rfl, _⟩ := h; rfl) | (obtain ⟨_, _, _, _, rfl, _⟩ := h; rfl) | (match ds, h with | [_], _ => rfl) | (match ds, h with | [_, _], _ => rfl)) (fun cdv A outer s H E hr => w_number_in hB K_MOST_DIGITS K_DIGITS hr) pure_number_in) (fun _ _ _ _ _ _ us hl => match us, hl with | [_], _ => rfl)
theorem sc_numbers_in : FnScope N_numbers_in P_numbers_in (defScope s_numbers_in) := ⟨rfl, rfl, rfl, by decide +kernel, rfl, by decide +kernel, by decide +kernel⟩
theorem w_numbers_in {P : Program} {w : World} {K : PySem.W.Frag} {T : Tab} {mg : Str → Option Value} {base : Heap} (D_number_in : Fn P w K T mg base "number_in" 1 [] C_number_in) {cdv : Value} {A : Around} {outer : List Env} {s : Shared} {H : Hp} {E : XK} {f : Addr} (hr : Room 1 (A.deeper (envOfC "numbers_in" (defScope s_numbers_in) s.heap.objs.size f cdv))) :
    PSs ((cxOf CX0 P w K mg base N_numbers_in "numbers_in" (defScope s_numbers_in) f cdv A outer s H E).nox) (defBody s_numbers_in) (UpS K T ⟨mg, E⟩ t_numbers_in) :=
  (ds_cons (ds_setLcG (own := [("word", 2)]) (fun _ _ _ => lc_up) rfl sc_numbers_in.nd (i := 1) rfl rfl (sw_true rfl rfl rfl (by decide +kernel)) (pi_seq (de_var (i := 0) rfl (.inl rfl))) (blkOk_by rfl) (fun _ _ _ _ _ => (dgw_name (by decide) sc_numbers_in.nd rfl (.inl rfl))) (fun _ _ _ _ _ => dts_nil) (fun _ _ _ _ _ => (de_fn D_number_in (hr.mono (by decide)) rfl (da_cons (de_var (i := 2) rfl (.inl rfl)) da_nil)))) (ds_one (ds_ret (de_ifExp (dt_cmp (op_inD (u65 hr)) r2_in de_none (de_var (i := 1) rfl (.inl rfl)) rfl) de_none (de_var (i := 1) rfl (.inl rfl))))))
theorem F_numbers_in {P : Program} {w : World} {K : PySem.W.Frag} {T : Tab} {mg : Str → Option Value} {base : Heap} {f : Addr} {fd : FuncData} (F : FunD K "numbers_in" "numbers_in" (defArgs s_numbers_in) (defBody s_numbers_in) (defScope s_numbers_in) [] [] f fd) (m : mg "numbers_in" = some (.ref f)) (D_number_in : Fn P w K T mg base "number_in" 1 [] C_number_in) : Fn P w K T mg base "numbers_in" 2 [] C_numbers_in := fn_mk F m (fn_ok F sc_numbers_in C_numbers_in t_numbers_in (fun ds QD h => by first | exact C_bag_len ds QD h | exact C_of_len ds QD h | (obtain ⟨rfl, _⟩ := h; rfl) | (obtain ⟨_, rfl, _⟩ := h; rfl) | (obtain ⟨_, _, rfl, _⟩ := h; rfl) | (obtain ⟨_, _, _, rfl, _⟩ := h; rfl) | (obtain ⟨_, _, _, _, rfl, _⟩ := h; rfl) | (match ds, h with | [_], _ => rfl) | (match ds, h with | [_, _], _ => rfl)) (fun cdv A outer s H E hr => w_numbers_in D_number_in hr) pure_numbers_in) (fun _ _ _ _ _ _ us hl => match us, hl with | [_], _ => rfl)
theorem sc_is_command : FnScope N_is_command P_is_command (defScope s_is_command) := ⟨rfl, rfl, rfl, by decide +kernel, rfl, by decide +kernel, by decide +kernel⟩
theorem w_is_command {P : Program} {w : World} {K : PySem.W.Frag} {T : Tab} {mg : Str → Option Value} {base : Heap}  {cdv : Value} {A : Around} {outer : List Env} {s : Shared} {H : Hp} {E : XK} {f : Addr} (hr : Room 0 (A.deeper (envOfC "is_command" (defScope s_is_command) s.heap.objs.size f cdv))) :
    PSs ((cxOf CX0 P w K mg base N_is_command "is_command" (defScope s_is_command) f cdv A outer s H E).nox) (defBody s_is_command) (UpS K T ⟨mg, E⟩ t_is_command) :=
  (ds_cons (ds_match (de_var (i := 0) rfl (.inl rfl)) (pcs_c sc_is_command.nd (pp_seq rfl (pps_cons (pp_val (u64 hr)) (pps_cons pp_cap (pps_cons pp_cap pps_nil))) rfl) (.cons rfl (.inl rfl) (by first | exact .inl rfl | exact .inr rfl) (.cons rfl (.inl rfl) (by first | exact .inl rfl | exact .inr rfl) .nil)) rfl (ds_one (ds_ret (de_and (de_cmp op_ge (r2_I0 fun _ _ => rfl) (de_var (i := 1) rfl (.inl rfl)) de_int (nomark _)) (de_one (de_cmp op_ge (r2_I0 fun _ _ => rfl) (de_var (i := 2) rfl (.inl rfl)) de_int (nomark _)))))) (pcs_c sc_is_command.nd (pp_seq rfl (pps_cons (pp_val (u64 hr)) (pps_cons pp_cap (pps_cons pp_cap pps_nil))) rfl) (.cons rfl (.inl rfl) (by first | exact .inl rfl | exact .inr rfl) (.cons rfl (.inl rfl) (by first | exact .inl rfl | exact .inr rfl) .nil)) rfl (ds_one (ds_ret (de_chain op_le op_le de_int (de_var (i := 3) rfl (.inl rfl)) (de_var (i := 4) rfl (.inl rfl)) (pe_chain op_le op_le de_int (de_var (i := 3) rfl (.inl rfl)) (de_var (i := 4) rfl (.inl rfl)))))) pcs_nil))) (ds_one (ds_ret de_bool)))
theorem F_is_command {P : Program} {w : World} {K : PySem.W.Frag} {T : Tab} {mg : Str → Option Value} {base : Heap} {f : Addr} {fd : FuncData} (F : FunD K "is_command" "is_command" (defArgs s_is_command) (defBody s_is_command) (defScope s_is_command) [] [] f fd) (m : mg "is_command" = some (.ref f))  : Fn P w K T mg base "is_command" 1 [] C_is_command := fn_mk F m (fn_ok F sc_is_command C_is_command t_is_command (fun ds QD h => by first | exact C_bag_len ds QD h | exact C_of_len ds QD h | (obtain ⟨rfl, _⟩ := h; rfl) | (obtain ⟨_, rfl, _⟩ := h; rfl) | (obtain ⟨_, _, rfl, _⟩ := h; rfl) | (obtain ⟨_, _, _, rfl, _⟩ := h; rfl) | (obtain ⟨_, _, _, _, rfl, _⟩ := h; rfl) | (match ds, h with | [_], _ => rfl) | (match ds, h with | [_, _], _ => rfl)) (fun cdv A outer s H E hr => w_is_command  hr) pure_is_command) (fun _ _ _ _ _ _ us hl => match us, hl with | [_], _ => rfl)
theorem sc_command_in : FnScope N_command_in P_command_in (defScope s_command_in) := ⟨rfl, rfl, rfl, by decide +kernel, rfl, by decide +kernel, by decide +kernel⟩
theorem w_command_in {P : Program} {w : World} {K : PySem.W.Frag} {T : Tab} {mg : Str → Option Value} {base : Heap} (D_numbers_in : Fn P w K T mg base "numbers_in" 2 [] C_numbers_in) (hB : Bl mg) (D_is_command : Fn P w K T mg base "is_command" 1 [] C_is_command) {cdv : Value} {A : Around} {outer : List Env} {s : Shared} {H : Hp} {E : XK} {f : Addr} (hr : Room 2 (A.deeper (envOfC "command_in" (defScope s_command_in) s.heap.objs.size f cdv))) :
    PSs ((cxOf CX0 P w K mg base N_command_in "command_in" (defScope s_command_in) f cdv A outer s H E).nox) (defBody s_command_in) (UpS K T ⟨mg, E⟩ t_command_in) :=
  (ds_cons (ds_asg (de_split (de_var (i := 0) rfl (.inl rfl)) de_str) (dg_star2L (i := 1) (j := 2) rfl sc_command_in.nd rfl rfl (.inl rfl) (.inl rfl))) (ds_cons (ds_set (i := 3) sc_command_in.nd rfl (.inl rfl) (de_fn D_numbers_in (hr.mono (by decide)) rfl (da_cons (de_var (i := 2) rfl (.inl rfl)) da_nil))) (ds_cons (ds_if (PW.pt (dw_or (dt_isN (de_var (i := 3) rfl (.inl rfl))) (dw_or1 (dt_cmp (op_neD (u64 hr)) r2_ne (de_cb cb_len (pe_callB call_len_seq rfl hB.len_ (by decide +kernel) (da_cons (de_var (i := 3) rfl (.inl rfl)) da_nil))) de_int (nomark _))))) (ds_one (ds_ret de_none)) ds_nil) (ds_cons (ds_set (i := 4) sc_command_in.nd rfl (.inl rfl) (de_tup (da_cons (de_var (i := 1) rfl (.inl rfl)) (da_star (de_var (i := 3) rfl (.inl rfl)) da_nil)))) (ds_one (ds_ret (de_ifExp (dt_val (de_fn D_is_command (hr.mono (by decide)) rfl (da_cons (de_var (i := 4) rfl (.inl rfl)) da_nil))) (de_var (i := 4) rfl (.inl rfl)) de_none)))))))
theorem F_command_in {P : Program} {w : World} {K : PySem.W.Frag} {T : Tab} {mg : Str → Option Value} {base : Heap} {f : Addr} {fd : FuncData} (F : FunD K "command_in" "command_in" (defArgs s_command_in) (defBody s_command_in) (defScope s_command_in) [] [] f fd) (m : mg "command_in" = some (.ref f)) (D_numbers_in : Fn P w K T mg base "numbers_in" 2 [] C_numbers_in) (hB : Bl mg) (D_is_command : Fn P w K T mg base "is_command" 1 [] C_is_command) : Fn P w K T mg base "command_in" 3 [] C_command_in := fn_mk F m (fn_ok F sc_command_in C_command_in t_command_in (fun ds QD h => by first | exact C_bag_len ds QD h | exact C_of_len ds QD h | (obtain ⟨rfl, _⟩ := h; rfl) | (obtain ⟨_, rfl, _⟩ := h; rfl) | (obtain ⟨_, _, rfl, _⟩ := h; rfl) | (obtain ⟨_, _, _, rfl, _⟩ := h; rfl) | (obtain ⟨_, _, _, _, rfl, _⟩ := h; rfl) | (match ds, h with | [_], _ => rfl) | (match ds, h with | [_, _], _ => rfl)) (fun cdv A outer s H E hr => w_command_in D_numbers_in hB D_is_command hr) pure_command_in) (fun _ _ _ _ _ _ us hl => match us, hl with | [_], _ => rfl)
theorem sc_parse_script : FnScope N_parse_script P_parse_script (defScope s_parse_script) := ⟨rfl, rfl, rfl, by decide +kernel, rfl, by decide +kernel, by decide +kernel⟩
theorem wx_parse_script {P : Program} {w : World} {K : PySem.W.Frag} {T : Tab} {mg : Str → Option Value} {base : Heap} (D_command_in : Fn P w K T mg base "command_in" 3 [] C_command_in) (ER_BadText : ErC P w K mg base "BadText" 1 ["at"]) (hB : Bl mg) {cdv : Value} {A : Around} {outer : List Env} {s : Shared} {H : Hp} {E : XK} {f : Addr} (hr : Room 3 (A.deeper (envOfC "parse_script" (defScope s_parse_script) s.heap.objs.size f cdv))) :
    PSs (cxOf (L2.CX P w) P w K mg base N_parse_script "parse_script" (defScope s_parse_script) f cdv A outer s H E) (defBody s_parse_script) (UpS K T ⟨mg, E⟩ tx_parse_script) :=
  (ds_cons (ds_asg (de_split (de_var (i := 0) rfl (.inl rfl)) de_str) (dg_starF (i := 1) (j := 2) rfl sc_parse_script.nd rfl rfl (.inl rfl) (.inl rfl))) (ds_cons (ds_setO (i := 3) sc_parse_script.nd rfl (.inl rfl) (de_lst da_nil)) (ds_cons (ds_forE owns_cx rfl rfl hB.enumerate_ (da_cons (de_var (i := 1) rfl (.inl rfl)) da_nil) (dg_tup rfl (dgs_cons (dg_name sc_parse_script.nd rfl (.inl rfl)) (dgs_cons (dg_name sc_parse_script.nd rfl (.inl rfl)) dgs_nil))) (ds_cons (ds_set (i := 6) sc_parse_script.nd rfl (.inl rfl) (de_fn D_command_in (hr.mono (by decide)) rfl (da_cons (de_var (i := 5) rfl (.inl rfl)) da_nil))) (ds_cons (ds_if (dt_isN (de_var (i := 6) rfl (.inl rfl))) (ds_one (ds_raise ER_BadText rfl takes_cx (hr.mono (by decide)) rfl (da_cons (de_var (i := 4) rfl (.inl rfl)) da_nil))) ds_nil) (ds_one (ds_app (ps_expr (pe_bm PySem.F.plainAttrs_list PySem.F.slot_list_append PySem.F.type_list_append mt_append (pe_var (i := 3) rfl (.inl rfl)) (pa_cons (de_var (i := 6) rfl (.inl rfl)) pa_nil)))))))) (ds_cons (ds_if (dt_cmp (op_neD (u64 hr)) r2_ne (de_var (i := 2) rfl (.inl rfl)) de_str (nomark _)) (ds_one (ds_raise ER_BadText rfl takes_cx (hr.mono (by decide)) rfl (da_cons (de_cb cb_len (pe_callB call_len_seq rfl hB.len_ (by decide +kernel) (da_cons (de_var (i := 1) rfl (.inl rfl)) da_nil))) da_nil))) ds_nil) (ds_one (ds_retOwn (i := 3) rfl (.inl rfl)))))))
theorem FX_parse_script {P : Program} {w : World} {K : PySem.W.Frag} {T : Tab} {mg : Str → Option Value} {base : Heap} {f : Addr} {fd : FuncData} (F : FunD K "parse_script" "parse_script" (defArgs s_parse_script) (defBody s_parse_script) (defScope s_parse_script) [] [] f fd) (m : mg "parse_script" = some (.ref f)) (D_command_in : Fn P w K T mg base "command_in" 3 [] C_command_in) (ER_BadText : ErC P w K mg base "BadText" 1 ["at"]) (hB : Bl mg) : FnX P w K T mg base "parse_script" 4 [] X_parse_script := fnx_mk F m (fnx_ok F sc_parse_script X_parse_script tx_parse_script (fun ds QD QE h => by first | (obtain ⟨rfl, _⟩ := h; rfl) | (obtain ⟨_, rfl, _⟩ := h; rfl) | (obtain ⟨_, _, rfl, _⟩ := h; rfl) | (obtain ⟨_, _, _, rfl, _⟩ := h; rfl) | (obtain ⟨_, _, _, _, rfl, _⟩ := h; rfl)) (fun cdv A outer s H E hr => wx_parse_script D_command_in ER_BadText hB hr) purex_parse_script) (fun _ _ _ _ _ _ us hl => match us, hl with | [_], _ => rfl)
theorem sc__law_long_text_right : FnScope N__law_long_text_right P__law_long_text_right (defScope s__law_long_text_right) := ⟨rfl, rfl, rfl, by decide +kernel, rfl, by decide +kernel, by decide +kernel⟩
theorem w__law_long_text_right {P : Program} {w : World} {K : PySem.W.Frag} {T : Tab} {mg : Str → Option Value} {base : Heap} (D__law_pull : Fn P w K T mg base "_law_pull" 1 [] C__law_pull) (D__law_like : Fn P w K T mg base "_law_like" 12 [] C__law_like) (D_parse_script : Fn P w K T mg base "parse_script" 4 [] C_parse_script) (TP : TldP P w K T mg base 1) (DX_parse_script : FnX P w K T mg base "parse_script" 4 [] X_parse_script) {cdv : Value} {A : Around} {outer : List Env} {s : Shared} {H : Hp} {E : XK} {f : Addr} {fd : FuncData} (tf : TabF T mg base fd "_law_long_text_right.<locals>.<lambda>") (hcd : fd.code = cdv) (hr : Room 12 (A.deeper (envOfC "_law_long_text_right" (defScope s__law_long_text_right) s.heap.objs.size f cdv))) :
    PSs ((cxOf CX0 P w K mg base N__law_long_text_right "_law_long_text_right" (defScope s__law_long_text_right) f cdv A outer s H E).nox) (defBody s__law_long_text_right) (UpS K T ⟨mg, E⟩ t__law_long_text_right) :=
  (ds_cons (ds_set (i := 1) sc__law_long_text_right.nd rfl (.inl rfl) (de_add de_int (de_fn D__law_pull (hr.mono (by decide)) rfl (da_cons (de_var (i := 0) rfl (.inl rfl)) (da_cons de_int da_nil))))) (ds_cons (ds_set (i := 2) sc__law_long_text_right.nd rfl (.inr rfl) (de_mulS de_str (de_var (i := 1) rfl (.inl rfl)))) (ds_cons (ds_if (dt_not (dt_val (de_fn D__law_like (hr.mono (by decide)) rfl (da_cons (de_fn D_parse_script (hr.mono (by decide)) rfl (da_cons (de_var (i := 2) rfl (.inr (.inl rfl))) da_nil)) (da_cons (de_mul (de_lst (da_cons (de_tup (da_cons de_str (da_cons de_int (da_cons de_int da_nil)))) da_nil)) (de_var (i := 1) rfl (.inl rfl))) da_nil))))) (ds_one (ds_ret de_bool)) ds_nil) (ds_one (ds_ret (de_cmp (op_eqD (u64 hr)) r2_eq (de_told (k := 4) TP (lamT_of tf hcd) (by decide) (hr.mono (by decide)) rfl (LamX.lamS_by rfl) (fun A outer s H E f c hr => (dx_fn DX_parse_script (hr.mono (by decide)) passes_lam rfl (da_cons (de_add (de_var (i := 2) rfl (.inr (.inr rfl))) de_str) da_nil)))) (de_tup (da_cons de_str (da_cons (de_var (i := 1) rfl (.inl rfl)) da_nil))) (nomark _)))))))
theorem F__law_long_text_right {P : Program} {w : World} {K : PySem.W.Frag} {T : Tab} {mg : Str → Option Value} {base : Heap} {f : Addr} {fd : FuncData} (F : FunD K "_law_long_text_right" "_law_long_text_right" (defArgs s__law_long_text_right) (defBody s__law_long_text_right) (defScope s__law_long_text_right) [] [] f fd) (m : mg "_law_long_text_right" = some (.ref f)) (D__law_pull : Fn P w K T mg base "_law_pull" 1 [] C__law_pull) (D__law_like : Fn P w K T mg base "_law_like" 12 [] C__law_like) (D_parse_script : Fn P w K T mg base "parse_script" 4 [] C_parse_script) (TP : TldP P w K T mg base 1) (DX_parse_script : FnX P w K T mg base "parse_script" 4 [] X_parse_script) (tf : TabF T mg base fd "_law_long_text_right.<locals>.<lambda>") : Fn P w K T mg base "_law_long_text_right" 13 [] C__law_long_text_right := fn_mk F m (fn_okC F sc__law_long_text_right C__law_long_text_right t__law_long_text_right (fun ds QD h => by first | exact C_bag_len ds QD h | exact C_of_len ds QD h | (obtain ⟨rfl, _⟩ := h; rfl) | (obtain ⟨_, rfl, _⟩ := h; rfl) | (obtain ⟨_, _, rfl, _⟩ := h; rfl) | (obtain ⟨_, _, _, rfl, _⟩ := h; rfl) | (obtain ⟨_, _, _, _, rfl, _⟩ := h; rfl) | (match ds, h with | [_], _ => rfl) | (match ds, h with | [_, _], _ => rfl)) (fun cdv A outer s H E hcd hr => w__law_long_text_right D__law_pull D__law_like D_parse_script TP DX_parse_script tf hcd hr) pure__law_long_text_right) (fun _ _ _ _ _ _ us hl => match us, hl with | [_], _ => rfl)
theorem sc__law_bent_text : FnScope N__law_bent_text P__law_bent_text (defScope s__law_bent_text) := ⟨rfl, rfl, rfl, by decide +kernel, rfl, by decide +kernel, by decide +kernel⟩
theorem w__law_bent_text {P : Program} {w : World} {K : PySem.W.Frag} {T : Tab} {mg : Str → Option Value} {base : Heap} (D__law_pull : Fn P w K T mg base "_law_pull" 1 [] C__law_pull) (hB : Bl mg) (D__law_of : Fn P w K T mg base "_law_of" 2 [] C__law_of) {cdv : Value} {A : Around} {outer : List Env} {s : Shared} {H : Hp} {E : XK} {f : Addr} (hr : Room 2 (A.deeper (envOfC "_law_bent_text" (defScope s__law_bent_text) s.heap.objs.size f cdv))) :
    PSs ((cxOf CX0 P w K mg base N__law_bent_text "_law_bent_text" (defScope s__law_bent_text) f cdv A outer s H E).nox) (defBody s__law_bent_text) (UpS K T ⟨mg, E⟩ t__law_bent_text) :=
  (ds_cons (ds_set (i := 3) sc__law_bent_text.nd rfl (.inl rfl) (de_fn D__law_pull (hr.mono (by decide)) rfl (da_cons (de_var (i := 0) rfl (.inl rfl)) (da_cons (de_add (de_cb cb_lenS (pe_callB call_len_str rfl hB.len_ (by decide +kernel) (da_cons (de_var (i := 1) rfl (.inl rfl)) da_nil))) de_int) da_nil)))) (ds_cons (ds_if (dt_cmp (op_eqD (u64 hr)) r2_eq (de_fn D__law_pull (hr.mono (by decide)) rfl (da_cons (de_var (i := 0) rfl (.inl rfl)) (da_cons de_int da_nil))) de_int (nomark _)) (ds_one (ds_ret (de_sl (de_var (i := 1) rfl (.inl rfl)) do_none (do_some (de_var (i := 3) rfl (.inl rfl)))))) ds_nil) (ds_one (ds_ret (de_add (de_add (de_sl (de_var (i := 1) rfl (.inl rfl)) do_none (do_some (de_var (i := 3) rfl (.inl rfl)))) (de_fn D__law_of (hr.mono (by decide)) rfl (da_cons (de_var (i := 0) rfl (.inl rfl)) (da_cons (de_var (i := 2) rfl (.inl rfl)) da_nil)))) (de_sl (de_var (i := 1) rfl (.inl rfl)) (do_some (de_add (de_var (i := 3) rfl (.inl rfl)) (de_fn D__law_pull (hr.mono (by decide)) rfl (da_cons (de_var (i := 0) rfl (.inl rfl)) (da_cons de_int da_nil))))) do_none))))))
theorem F__law_bent_text {P : Program} {w : World} {K : PySem.W.Frag} {T : Tab} {mg : Str → Option Value} {base : Heap} {f : Addr} {fd : FuncData} (F : FunD K "_law_bent_text" "_law_bent_text" (defArgs s__law_bent_text) (defBody s__law_bent_text) (defScope s__law_bent_text) [] [] f fd) (m : mg "_law_bent_text" = some (.ref f)) (D__law_pull : Fn P w K T mg base "_law_pull" 1 [] C__law_pull) (hB : Bl mg) (D__law_of : Fn P w K T mg base "_law_of" 2 [] C__law_of) : Fn P w K T mg base "_law_bent_text" 3 [] C__law_bent_text := fn_mk F m (fn_ok F sc__law_bent_text C__law_bent_text t__law_bent_text (fun ds QD h => by first | exact C_bag_len ds QD h | exact C_of_len ds QD h | (obtain ⟨rfl, _⟩ := h; rfl) | (obtain ⟨_, rfl, _⟩ := h; rfl) | (obtain ⟨_, _, rfl, _⟩ := h; rfl) | (obtain ⟨_, _, _, rfl, _⟩ := h; rfl) | (obtain ⟨_, _, _, _, rfl, _⟩ := h; rfl) | (match ds, h with | [_], _ => rfl) | (match ds, h with | [_, _], _ => rfl)) (fun cdv A outer s H E hr => w__law_bent_text D__law_pull hB D__law_of hr) pure__law_bent_text) (fun _ _ _ _ _ _ us hl => match us, hl with | [_, _, _], _ => rfl)
theorem sc__law_odd_command : FnScope N__law_odd_command P__law_odd_command (defScope s__law_odd_command) := ⟨rfl, rfl, rfl, by decide +kernel, rfl, by decide +kernel, by decide +kernel⟩
theorem w__law_odd_command {P : Program} {w : World} {K : PySem.W.Frag} {T : Tab} {mg : Str → Option Value} {base : Heap} (D__law_of : Fn P w K T mg base "_law_of" 2 [] C__law_of) {cdv : Value} {A : Around} {outer : List Env} {s : Shared} {H : Hp} {E : XK} {f : Addr} (hr : Room 2 (A.deeper (envOfC "_law_odd_command" (defScope s__law_odd_command) s.heap.objs.size f cdv))) :
    PSs ((cxOf CX0 P w K mg base N__law_odd_command "_law_odd_command" (defScope s__law_odd_command) f cdv A outer s H E).nox) (defBody s__law_odd_command) (UpS K T ⟨mg, E⟩ t__law_odd_command) :=
  (ds_cons (ds_setO (i := 1) sc__law_odd_command.nd rfl (.inl rfl) (de_lst (da_cons (de_tup (da_cons de_str (da_cons (de_neg de_int) (da_cons de_int da_nil)))) (da_cons (de_tup (da_cons de_str (da_cons de_int (da_cons de_int da_nil)))) (da_cons (de_tup (da_cons de_str (da_cons de_int (da_cons (de_neg de_int) da_nil)))) (da_cons (de_tup (da_cons de_str (da_cons de_int (da_cons de_int da_nil)))) (da_cons (de_tup (da_cons de_str (da_cons (de_neg de_int) (da_cons de_int da_nil)))) (da_cons (de_tup (da_cons de_str (da_cons de_int (da_cons de_int da_nil)))) da_nil)))))))) (ds_cons (ds_setO (i := 1) sc__law_odd_command.nd rfl (.inl rfl) (de_add (de_var (i := 1) rfl (.inl rfl)) (de_lst (da_cons (de_tup (da_cons de_str (da_cons de_int da_nil))) (da_cons (de_tup da_nil) (da_cons (de_tup (da_cons de_str (da_cons de_int (da_cons de_int da_nil)))) (da_cons (de_tup (da_cons de_str (da_cons de_int (da_cons de_int (da_cons de_int da_nil))))) (da_cons (de_tup (da_cons de_str da_nil)) (da_cons (de_tup (da_cons de_str (da_cons de_int (da_cons de_int da_nil)))) da_nil))))))))) (ds_cons (ds_app (ps_expr (pe_bm PySem.F.plainAttrs_list PySem.F.slot_list_append PySem.F.type_list_append mt_append (pe_var (i := 1) rfl (.inl rfl)) (pa_cons (de_tup (da_cons de_str (da_cons de_int (da_cons (de_neg (de_pow de_int de_int)) da_nil)))) pa_nil)))) (ds_one (ds_ret (de_fn D__law_of (hr.mono (by decide)) rfl (da_cons (de_var (i := 0) rfl (.inl rfl)) (da_cons (de_var (i := 1) rfl (.inl rfl)) da_nil))))))))
theorem F__law_odd_command {P : Program} {w : World} {K : PySem.W.Frag} {T : Tab} {mg : Str → Option Value} {base : Heap} {f : Addr} {fd : FuncData} (F : FunD K "_law_odd_command" "_law_odd_command" (defArgs s__law_odd_command) (defBody s__law_odd_command) (defScope s__law_odd_command) [] [] f fd) (m : mg "_law_odd_command" = some (.ref f)) (D__law_of : Fn P w K T mg base "_law_of" 2 [] C__law_of) : Fn P w K T mg base "_law_odd_command" 3 [] C__law_odd_command := fn_mk F m (fn_ok F sc__law_odd_command C__law_odd_command t__law_odd_command (fun ds QD h => by first | exact C_bag_len ds QD h | exact C_of_len ds QD h | (obtain ⟨rfl, _⟩ := h; rfl) | (obtain ⟨_, rfl, _⟩ := h; rfl) | (obtain ⟨_, _, rfl, _⟩ := h; rfl) | (obtain ⟨_, _, _, rfl, _⟩ := h; rfl) | (obtain ⟨_, _, _, _, rfl, _⟩ := h; rfl) | (match ds, h with | [_], _ => rfl) | (match ds, h with | [_, _], _ => rfl)) (fun cdv A outer s H E hr => w__law_odd_command D__law_of hr) pure__law_odd_command) (fun _ _ _ _ _ _ us hl => match us, hl with | [_], _ => rfl)
theorem sc_check_script : FnScope N_check_script P_check_script (defScope s_check_script) := ⟨rfl, rfl, rfl, by decide +kernel, rfl, by decide +kernel, by decide +kernel⟩
theorem wx_check_script {P : Program} {w : World} {K : PySem.W.Frag} {T : Tab} {mg : Str → Option Value} {base : Heap} (D_is_command : Fn P w K T mg base "is_command" 1 [] C_is_command) (ER_BadCommand : ErC P w K mg base "BadCommand" 1 ["at"]) (hB : Bl mg) {cdv : Value} {A : Around} {outer : List Env} {s : Shared} {H : Hp} {E : XK} {f : Addr} (hr : Room 2 (A.deeper (envOfC "check_script" (defScope s_check_script) s.heap.objs.size f cdv))) :
    PSs (cxOf (L2.CX P w) P w K mg base N_check_script "check_script" (defScope s_check_script) f cdv A outer s H E) (defBody s_check_script) (UpS K T ⟨mg, E⟩ tx_check_script) :=
  (ds_one (ds_forE owns_cx rfl rfl hB.enumerate_ (da_cons (de_var (i := 0) rfl (.inl rfl)) da_nil) (dg_tup rfl (dgs_cons (dg_name sc_check_script.nd rfl (.inl rfl)) (dgs_cons (dg_name sc_check_script.nd rfl (.inl rfl)) dgs_nil))) (ds_one (ds_if (dt_not (dt_val (de_fn D_is_command (hr.mono (by decide)) rfl (da_cons (de_var (i := 2) rfl (.inl rfl)) da_nil)))) (ds_one (ds_raise ER_BadCommand rfl takes_cx (hr.mono (by decide)) rfl (da_cons (de_var (i := 1) rfl (.inl rfl)) da_nil))) ds_nil))))
theorem FX_check_script {P : Program} {w : World} {K : PySem.W.Frag} {T : Tab} {mg : Str → Option Value} {base : Heap} {f : Addr} {fd : FuncData} (F : FunD K "check_script" "check_script" (defArgs s_check_script) (defBody s_check_script) (defScope s_check_script) [] [] f fd) (m : mg "check_script" = some (.ref f)) (D_is_command : Fn P w K T mg base "is_command" 1 [] C_is_command) (ER_BadCommand : ErC P w K mg base "BadCommand" 1 ["at"]) (hB : Bl mg) : FnX P w K T mg base "check_script" 3 [] X_check_script := fnx_mk F m (fnx_ok F sc_check_script X_check_script tx_check_script (fun ds QD QE h => by first | (obtain ⟨rfl, _⟩ := h; rfl) | (obtain ⟨_, rfl, _⟩ := h; rfl) | (obtain ⟨_, _, rfl, _⟩ := h; rfl) | (obtain ⟨_, _, _, rfl, _⟩ := h; rfl) | (obtain ⟨_, _, _, _, rfl, _⟩ := h; rfl)) (fun cdv A outer s H E hr => wx_check_script D_is_command ER_BadCommand hB hr) purex_check_script) (fun _ _ _ _ _ _ us hl => match us, hl with | [_], _ => rfl)
theorem sc_script_text : FnScope N_script_text P_script_text (defScope s_script_text) := ⟨rfl, rfl, rfl, by decide +kernel, rfl, by decide +kernel, by decide +kernel⟩
theorem wx_script_text {P : Program} {w : World} {K : PySem.W.Frag} {T : Tab} {mg : Str → Option Value} {base : Heap} (DX_check_script : FnX P w K T mg base "check_script" 3 [] X_check_script) {cdv : Value} {A : Around} {outer : List Env} {s : Shared} {H : Hp} {E : XK} {f : Addr} (hr : Room 3 (A.deeper (envOfC "script_text" (defScope s_script_text) s.heap.objs.size f cdv))) :
    PSs (cxOf (L2.CX P w) P w K mg base N_script_text "script_text" (defScope s_script_text) f cdv A outer s H E) (defBody s_script_text) (UpS K T ⟨mg, E⟩ tx_script_text) :=
  (ds_cons (ds_exprX (dx_fn DX_check_script (hr.mono (by decide)) passes_cx rfl (da_cons (de_var (i := 0) rfl (.inl rfl)) da_nil))) (ds_one (ds_ret (de_join de_str (de_lcG (own := [("word", 1), ("one", 2), ("other", 3)]) (fun _ _ _ => lc_up) rfl sc_script_text.nd (pi_seq (de_var (i := 0) rfl (.inl rfl))) (blkOk_by rfl) (fun _ _ _ _ _ => (dgw_tup rfl (dgsw_cons (dgw_name (by decide) sc_script_text.nd rfl (.inl rfl)) (dgsw_cons (dgw_name (by decide) sc_script_text.nd rfl (.inl rfl)) (dgsw_cons (dgw_name (by decide) sc_script_text.nd rfl (.inl rfl)) dgsw_nil))))) (fun _ _ _ _ _ => dts_nil) (fun _ _ _ _ _ => (de_js (.cons (de_fmt (de_var (i := 1) rfl (.inl rfl))) (.cons de_str (.cons (de_fmt (de_var (i := 2) rfl (.inl rfl))) (.cons de_str (.cons (de_fmt (de_var (i := 3) rfl (.inl rfl))) (.cons de_str .nil)))))))))))))
theorem FX_script_text {P : Program} {w : World} {K : PySem.W.Frag} {T : Tab} {mg : Str → Option Value} {base : Heap} {f : Addr} {fd : FuncData} (F : FunD K "script_text" "script_text" (defArgs s_script_text) (defBody s_script_text) (defScope s_script_text) [] [] f fd) (m : mg "script_text" = some (.ref f)) (DX_check_script : FnX P w K T mg base "check_script" 3 [] X_check_script) : FnX P w K T mg base "script_text" 4 [] X_script_text := fnx_mk F m (fnx_ok F sc_script_text X_script_text tx_script_text (fun ds QD QE h => by first | (obtain ⟨rfl, _⟩ := h; rfl) | (obtain ⟨_, rfl, _⟩ := h; rfl) | (obtain ⟨_, _, rfl, _⟩ := h; rfl) | (obtain ⟨_, _, _, rfl, _⟩ := h; rfl) | (obtain ⟨_, _, _, _, rfl, _⟩ := h; rfl)) (fun cdv A outer s H E hr => wx_script_text DX_check_script hr) purex_script_text) (fun _ _ _ _ _ _ us hl => match us, hl with | [_], _ => rfl)
theorem sc__law_plain_number : FnScope N__law_plain_number P__law_plain_number (defScope s__law_plain_number) := ⟨rfl, rfl, rfl, by decide +kernel, rfl, by decide +kernel, by decide +kernel⟩
theorem w__law_plain_number {P : Program} {w : World} {K : PySem.W.Frag} {T : Tab} {mg : Str → Option Value} {base : Heap} (hB : Bl mg) {cdv : Value} {A : Around} {outer : List Env} {s : Shared} {H : Hp} {E : XK} {f : Addr} (hr : Room 0 (A.deeper (envOfC "_law_plain_number" (defScope s__law_plain_number) s.heap.objs.size f cdv))) :
    PSs ((cxOf CX0 P w K mg base N__law_plain_number "_law_plain_number" (defScope s__law_plain_number) f cdv A outer s H E).nox) (defBody s__law_plain_number) (UpS K T ⟨mg, E⟩ t__law_plain_number) :=
  (ds_cons (ds_if (PW.pt (dw_or (dt_cmp (op_eqD (u64 hr)) r2_eq (de_var (i := 0) rfl (.inl rfl)) de_str (nomark _)) (dw_or (dt_cmp op_gt (r2_I0 fun _ _ => rfl) (de_cb cb_lenS (pe_callB call_len_str rfl hB.len_ (by decide +kernel) (da_cons (de_var (i := 0) rfl (.inl rfl)) da_nil))) de_int (nomark _)) (dw_or1 (dt_not (dt_val (de_cb cb_all (pe_callB (cr_all rfl) rfl hB.all_ (by decide +kernel) (da_cons (de_lcG (own := [("_law_char", 1)]) (fun _ _ _ => lc_upS) rfl sc__law_plain_number.nd (pi_str (de_var (i := 0) rfl (.inl rfl))) (blkOk_by rfl) (fun _ _ _ _ _ => (dgw_name (by decide) sc__law_plain_number.nd rfl (.inl rfl))) (fun _ _ _ _ _ => dts_nil) (fun _ _ _ _ _ => (de_cmp L2.op_in_sign r2_inS (de_var (i := 1) rfl (.inl rfl)) de_str rfl))) da_nil))))))))) (ds_one (ds_ret de_none)) ds_nil) (ds_one (ds_ret (de_ifExp (PW.pt (dw_and (dt_cmp (op_eqD (u64 hr)) r2_eq (de_ixS (de_var (i := 0) rfl (.inl rfl)) de_int (fun _ _ => rfl)) de_str (nomark _)) (dw_and1 (dt_cmp op_gt (r2_I0 fun _ _ => rfl) (de_cb cb_lenS (pe_callB call_len_str rfl hB.len_ (by decide +kernel) (da_cons (de_var (i := 0) rfl (.inl rfl)) da_nil))) de_int (nomark _))))) de_none (de_cb cb_intS (pe_callTy call_int_str rfl hB.int_ (by decide +kernel) (da_cons (de_var (i := 0) rfl (.inl rfl)) da_nil)))))))
theorem F__law_plain_number {P : Program} {w : World} {K : PySem.W.Frag} {T : Tab} {mg : Str → Option Value} {base : Heap} {f : Addr} {fd : FuncData} (F : FunD K "_law_plain_number" "_law_plain_number" (defArgs s__law_plain_number) (defBody s__law_plain_number) (defScope s__law_plain_number) [] [] f fd) (m : mg "_law_plain_number" = some (.ref f)) (hB : Bl mg) : Fn P w K T mg base "_law_plain_number" 1 [] C__law_plain_number := fn_mk F m (fn_ok F sc__law_plain_number C__law_plain_number t__law_plain_number (fun ds QD h => by first | exact C_bag_len ds QD h | exact C_of_len ds QD h | (obtain ⟨rfl, _⟩ := h; rfl) | (obtain ⟨_, rfl, _⟩ := h; rfl) | (obtain ⟨_, _, rfl, _⟩ := h; rfl) | (obtain ⟨_, _, _, rfl, _⟩ := h; rfl) | (obtain ⟨_, _, _, _, rfl, _⟩ := h; rfl) | (match ds, h with | [_], _ => rfl) | (match ds, h with | [_, _], _ => rfl)) (fun cdv A outer s H E hr => w__law_plain_number hB hr) pure__law_plain_number) (fun _ _ _ _ _ _ us hl => match us, hl with | [_], _ => rfl)
theorem sc__law_due_command : FnScope N__law_due_command P__law_due_command (defScope s__law_due_command) := ⟨rfl, rfl, rfl, by decide +kernel, rfl, by decide +kernel, by decide +kernel⟩
theorem w__law_due_command {P : Program} {w : World} {K : PySem.W.Frag} {T : Tab} {mg : Str → Option Value} {base : Heap} (hB : Bl mg) {cdv : Value} {A : Around} {outer : List Env} {s : Shared} {H : Hp} {E : XK} {f : Addr} (hr : Room 0 (A.deeper (envOfC "_law_due_command" (defScope s__law_due_command) s.heap.objs.size f cdv))) :
    PSs ((cxOf CX0 P w K mg base N__law_due_command "_law_due_command" (defScope s__law_due_command) f cdv A outer s H E).nox) (defBody s__law_due_command) (UpS K T ⟨mg, E⟩ t__law_due_command) :=
  (ds_cons (ds_for1 PassesOwn.never rfl rfl hB.range_ (da_cons (de_cb cb_len (pe_callB call_len_seq rfl hB.len_ (by decide +kernel) (da_cons (de_var (i := 0) rfl (.inl rfl)) da_nil))) da_nil) (dg_name sc__law_due_command.nd rfl (.inl rfl)) (ds_cons (ds_set (i := 2) sc__law_due_command.nd rfl (.inl rfl) (de_ixE (de_var (i := 0) rfl (.inl rfl)) (de_var (i := 1) rfl (.inl rfl)) (fun _ _ => rfl))) (ds_cons (ds_if (PW.pt (dw_or (dt_cmp (op_neD (u64 hr)) r2_ne (de_cb cb_len (pe_callB call_len_seq rfl hB.len_ (by decide +kernel) (da_cons (de_var (i := 2) rfl (.inl rfl)) da_nil))) de_int (nomark _)) (dw_or1 (dt_cmp L2.op_notIn_seq r2_notInF (de_ixK (k := 0) rfl (de_var (i := 2) rfl (.inl rfl))) (de_tup (da_cons de_str (da_cons de_str da_nil))) rfl)))) (ds_one (ds_ret (de_var (i := 1) rfl (.inl rfl)))) ds_nil) (ds_cons (ds_if (PW.pt (dw_and (dt_cmp (op_eqD (u64 hr)) r2_eq (de_ixK (k := 0) rfl (de_var (i := 2) rfl (.inl rfl))) de_str (nomark _)) (dw_and1 (PW.pt (dw_or (dt_cmp op_lt (r2_I0 fun _ _ => rfl) (de_ixK (k := 1) rfl (de_var (i := 2) rfl (.inl rfl))) de_int (nomark _)) (dw_or1 (dt_cmp op_lt (r2_I0 fun _ _ => rfl) (de_ixK (k := 2) rfl (de_var (i := 2) rfl (.inl rfl))) de_int (nomark _)))))))) (ds_one (ds_ret (de_var (i := 1) rfl (.inl rfl)))) ds_nil) (ds_one (ds_if (PW.pt (dw_and (dt_cmp (op_eqD (u64 hr)) r2_eq (de_ixK (k := 0) rfl (de_var (i := 2) rfl (.inl rfl))) de_str (nomark _)) (dw_and1 (dt_not (dt_chain op_le op_le de_int (de_ixK (k := 1) rfl (de_var (i := 2) rfl (.inl rfl))) (de_ixK (k := 2) rfl (de_var (i := 2) rfl (.inl rfl))) (pt_chain op_le op_le de_int (de_ixK (k := 1) rfl (de_var (i := 2) rfl (.inl rfl))) (de_ixK (k := 2) rfl (de_var (i := 2) rfl (.inl rfl))))))))) (ds_one (ds_ret (de_var (i := 1) rfl (.inl rfl)))) ds_nil)))))) (ds_one (ds_ret de_none)))
theorem F__law_due_command {P : Program} {w : World} {K : PySem.W.Frag} {T : Tab} {mg : Str → Option Value} {base : Heap} {f : Addr} {fd : FuncData} (F : FunD K "_law_due_command" "_law_due_command" (defArgs s__law_due_command) (defBody s__law_due_command) (defScope s__law_due_command) [] [] f fd) (m : mg "_law_due_command" = some (.ref f)) (hB : Bl mg) : Fn P w K T mg base "_law_due_command" 1 [] C__law_due_command := fn_mk F m (fn_ok F sc__law_due_command C__law_due_command t__law_due_command (fun ds QD h => by first | exact C_bag_len ds QD h | exact C_of_len ds QD h | (obtain ⟨rfl, _⟩ := h; rfl) | (obtain ⟨_, rfl, _⟩ := h; rfl) | (obtain ⟨_, _, rfl, _⟩ := h; rfl) | (obtain ⟨_, _, _, rfl, _⟩ := h; rfl) | (obtain ⟨_, _, _, _, rfl, _⟩ := h; rfl) | (match ds, h with | [_], _ => rfl) | (match ds, h with | [_, _], _ => rfl)) (fun cdv A outer s H E hr => w__law_due_command hB hr) pure__law_due_command) (fun _ _ _ _ _ _ us hl => match us, hl with | [_], _ => rfl)
theorem sc__law_lines_due : FnScope N__law_lines_due P__law_lines_due (defScope s__law_lines_due) := ⟨rfl, rfl, rfl, by decide +kernel, rfl, by decide +kernel, by decide +kernel⟩
theorem w__law_lines_due {P : Program} {w : World} {K : PySem.W.Frag} {T : Tab} {mg : Str → Option Value} {base : Heap} (hB : Bl mg) (D__law_plain_number : Fn P w K T mg base "_law_plain_number" 1 [] C__law_plain_number) (D__law_due_command : Fn P w K T mg base "_law_due_command" 1 [] C__law_due_command) {cdv : Value} {A : Around} {outer : List Env} {s : Shared} {H : Hp} {E : XK} {f : Addr} (hr : Room 1 (A.deeper (envOfC "_law_lines_due" (defScope s__law_lines_due) s.heap.objs.size f cdv))) :
    PSs ((cxOf CX0 P w K mg base N__law_lines_due "_law_lines_due" (defScope s__law_lines_due) f cdv A outer s H E).nox) (defBody s__law_lines_due) (UpS K T ⟨mg, E⟩ t__law_lines_due) :=
  (ds_cons (ds_set (i := 1) sc__law_lines_due.nd rfl (.inl rfl) (de_split (de_var (i := 0) rfl (.inl rfl)) de_str)) (ds_cons (ds_setO (i := 2) sc__law_lines_due.nd rfl (.inl rfl) (de_lst da_nil)) (ds_cons (ds_for1 PassesOwn.never rfl rfl hB.range_ (da_cons (de_sub (de_cb cb_len (pe_callB call_len_seq rfl hB.len_ (by decide +kernel) (da_cons (de_var (i := 1) rfl (.inl rfl)) da_nil))) de_int) da_nil) (dg_name sc__law_lines_due.nd rfl (.inl rfl)) (ds_cons (ds_set (i := 4) sc__law_lines_due.nd rfl (.inl rfl) (de_split (de_ixE (de_var (i := 1) rfl (.inl rfl)) (de_var (i := 3) rfl (.inl rfl)) (fun _ _ => rfl)) de_str)) (ds_cons (ds_setLcG (own := [("_law_word", 7)]) (fun _ _ _ => lc_up) rfl sc__law_lines_due.nd (i := 5) rfl rfl (sw_true rfl rfl rfl (by decide +kernel)) (pi_seq (de_sl (de_var (i := 4) rfl (.inl rfl)) (do_some de_int) do_none)) (blkOk_by rfl) (fun _ _ _ _ _ => (dgw_name (by decide) sc__law_lines_due.nd rfl (.inl rfl))) (fun _ _ _ _ _ => dts_nil) (fun _ _ _ _ _ => (de_fn D__law_plain_number (hr.mono (by decide)) rfl (da_cons (de_var (i := 7) rfl (.inl rfl)) da_nil)))) (ds_cons (ds_if (PW.pt (dw_or (dt_cmp (op_neD (u64 hr)) r2_ne (de_cb cb_len (pe_callB call_len_seq rfl hB.len_ (by decide +kernel) (da_cons (de_var (i := 4) rfl (.inl rfl)) da_nil))) de_int (nomark _)) (dw_or1 (dt_cmp (op_inD (u65 hr)) r2_in de_none (de_var (i := 5) rfl (.inl rfl)) rfl)))) (ds_one (ds_ret (de_tup (da_cons de_str (da_cons (de_var (i := 3) rfl (.inl rfl)) da_nil))))) ds_nil) (ds_cons (ds_set (i := 6) sc__law_lines_due.nd rfl (.inl rfl) (de_tup (da_cons (de_ixK (k := 0) rfl (de_var (i := 4) rfl (.inl rfl))) (da_cons (de_ixK (k := 0) rfl (de_var (i := 5) rfl (.inl rfl))) (da_cons (de_ixK (k := 1) rfl (de_var (i := 5) rfl (.inl rfl))) da_nil))))) (ds_cons (ds_if (dt_notN (de_fn D__law_due_command (hr.mono (by decide)) rfl (da_cons (de_lst (da_cons (de_var (i := 6) rfl (.inl rfl)) da_nil)) da_nil))) (ds_one (ds_ret (de_tup (da_cons de_str (da_cons (de_var (i := 3) rfl (.inl rfl)) da_nil))))) ds_nil) (ds_one (ds_app (ps_expr (pe_bm PySem.F.plainAttrs_list PySem.F.slot_list_append PySem.F.type_list_append mt_append (pe_var (i := 2) rfl (.inl rfl)) (pa_cons (de_var (i := 6) rfl (.inl rfl)) pa_nil))))))))))) (ds_frz (ds_one (ds_ret (de_ifExp (dt_cmp (op_eqD (u64 hr)) r2_eq (de_ixL (de_var (i := 1) rfl (.inl rfl))) de_str (nomark _)) (de_tup (da_cons de_str (da_cons (de_var (i := 2) rfl (.inl rfl)) da_nil))) (de_tup (da_cons de_str (da_cons (de_sub (de_cb cb_len (pe_callB call_len_seq rfl hB.len_ (by decide +kernel) (da_cons (de_var (i := 1) rfl (.inl rfl)) da_nil))) de_int) da_nil))))))))))
theorem F__law_lines_due {P : Program} {w : World} {K : PySem.W.Frag} {T : Tab} {mg : Str → Option Value} {base : Heap} {f : Addr} {fd : FuncData} (F : FunD K "_law_lines_due" "_law_lines_due" (defArgs s__law_lines_due) (defBody s__law_lines_due) (defScope s__law_lines_due) [] [] f fd) (m : mg "_law_lines_due" = some (.ref f)) (hB : Bl mg) (D__law_plain_number : Fn P w K T mg base "_law_plain_number" 1 [] C__law_plain_number) (D__law_due_command : Fn P w K T mg base "_law_due_command" 1 [] C__law_due_command) : Fn P w K T mg base "_law_lines_due" 2 [] C__law_lines_due := fn_mk F m (fn_ok F sc__law_lines_due C__law_lines_due t__law_lines_due (fun ds QD h => by first | exact C_bag_len ds QD h | exact C_of_len ds QD h | (obtain ⟨rfl, _⟩ := h; rfl) | (obtain ⟨_, rfl, _⟩ := h; rfl) | (obtain ⟨_, _, rfl, _⟩ := h; rfl) | (obtain ⟨_, _, _, rfl, _⟩ := h; rfl) | (obtain ⟨_, _, _, _, rfl, _⟩ := h; rfl) | (match ds, h with | [_], _ => rfl) | (match ds, h with | [_, _], _ => rfl)) (fun cdv A outer s H E hr => w__law_lines_due hB D__law_plain_number D__law_due_command hr) pure__law_lines_due) (fun _ _ _ _ _ _ us hl => match us, hl with | [_], _ => rfl)
theorem sc_law : FnScope N_law P_law (defScope s_law) := ⟨rfl, rfl, rfl, by decide +kernel, rfl, by decide +kernel, by decide +kernel⟩
theorem w_law {P : Program} {w : World} {K : PySem.W.Frag} {T : Tab} {mg : Str → Option Value} {base : Heap} (D__law_script : Fn P w K T mg base "_law_script" 4 [] C__law_script) (D__law_pull : Fn P w K T mg base "_law_pull" 1 [] C__law_pull) (hB : Bl mg) (D_parse_script : Fn P w K T mg base "parse_script" 4 [] C_parse_script) (D_script_text : Fn P w K T mg base "script_text" 4 [] C_script_text) (D__law_like : Fn P w K T mg base "_law_like" 12 [] C__law_like) (D__law_bent_text : Fn P w K T mg base "_law_bent_text" 3 [] C__law_bent_text) (D__law_lines_due : Fn P w K T mg base "_law_lines_due" 2 [] C__law_lines_due) (TP : TldP P w K T mg base 1) (DX_parse_script : FnX P w K T mg base "parse_script" 4 [] X_parse_script) (D__law_odd_command : Fn P w K T mg base "_law_odd_command" 3 [] C__law_odd_command) (DX_script_text : FnX P w K T mg base "script_text" 4 [] X_script_text) (D__law_due_command : Fn P w K T mg base "_law_due_command" 1 [] C__law_due_command) (D__law_long_text_right : Fn P w K T mg base "_law_long_text_right" 13 [] C__law_long_text_right) {cdv : Value} {A : Around} {outer : List Env} {s : Shared} {H : Hp} {E : XK} {f : Addr} {fd : FuncData} (tf : TabF T mg base fd "law.<locals>.<lambda>") (hcd : fd.code = cdv) (hr : Room 13 (A.deeper (envOfC "law" (defScope s_law) s.heap.objs.size f cdv))) :
    PSs ((cxOf CX0 P w K mg base N_law "law" (defScope s_law) f cdv A outer s H E).nox) (defBody s_law).tail (UpS K T ⟨mg, E⟩ t_law) :=
  (ds_cons (ds_for1 PassesOwn.never rfl rfl hB.range_ (da_cons de_int da_nil) (dg_name sc_law.nd rfl (.inl rfl)) (ds_cons (ds_setO (i := 4) sc_law.nd rfl (.inl rfl) (de_fn D__law_script (hr.mono (by decide)) rfl (da_cons (de_var (i := 1) rfl (.inl rfl)) (da_cons de_int da_nil)))) (ds_cons (ds_if (dt_cmp (op_eqD (u64 hr)) r2_eq (de_fn D__law_pull (hr.mono (by decide)) rfl (da_cons (de_var (i := 1) rfl (.inl rfl)) (da_cons de_int da_nil))) de_int (nomark _)) (ds_cons (ds_set (i := 12) sc_law.nd rfl (.inl rfl) (de_fn D__law_pull (hr.mono (by decide)) rfl (da_cons (de_var (i := 1) rfl (.inl rfl)) (da_cons (de_pow de_int de_int) da_nil)))) (ds_one (ds_app (ps_expr (pe_bm PySem.F.plainAttrs_list PySem.F.slot_list_append PySem.F.type_list_append mt_append (pe_var (i := 4) rfl (.inl rfl)) (pa_cons (de_tup (da_cons de_str (da_cons (de_var (i := 12) rfl (.inl rfl)) (da_cons (de_add (de_var (i := 12) rfl (.inl rfl)) (de_fn D__law_pull (hr.mono (by decide)) rfl (da_cons (de_var (i := 1) rfl (.inl rfl)) (da_cons (de_pow de_int de_int) da_nil)))) da_nil)))) pa_nil)))))) ds_nil) (ds_cons (ds_set (i := 5) sc_law.nd rfl (.inr rfl) de_str) (ds_frz (ds_cons (ds_for PassesOwn.never rfl (de_var (i := 4) rfl (.inl rfl)) (dg_tup rfl (dgs_cons (dg_name sc_law.nd rfl (.inl rfl)) (dgs_cons (dg_name sc_law.nd rfl (.inl rfl)) (dgs_cons (dg_name sc_law.nd rfl (.inl rfl)) dgs_nil)))) (ds_one (ds_set (i := 5) sc_law.nd rfl (.inr rfl) (de_add (de_add (de_add (de_add (de_add (de_add (de_var (i := 5) rfl (.inr (.inl rfl))) (de_var (i := 6) rfl (.inl rfl))) de_str) (de_cb cb_strI (pe_callTy call_str_int rfl hB.str_ (by decide +kernel) (da_cons (de_var (i := 7) rfl (.inl rfl)) da_nil)))) de_str) (de_cb cb_strI (pe_callTy call_str_int rfl hB.str_ (by decide +kernel) (da_cons (de_var (i := 8) rfl (.inl rfl)) da_nil)))) de_str)))) (ds_cons (ds_for1 PassesOwn.never rfl rfl hB.range_ (da_cons de_int da_nil) (dg_name sc_law.nd rfl (.inl rfl)) (ds_cons (ds_setO (i := 3) sc_law.nd rfl (.inl rfl) (de_lst (da_cons (de_fn D_script_text (hr.mono (by decide)) rfl (da_cons (de_var (i := 4) rfl (.inl rfl)) da_nil)) (da_cons (de_fn D_script_text (hr.mono (by decide)) rfl (da_cons (de_cb cb_tuple (pe_callTy call_tuple_of rfl hB.tuple_ (by decide +kernel) (da_cons (de_var (i := 4) rfl (.inl rfl)) da_nil))) da_nil)) (da_cons (de_fn D_parse_script (hr.mono (by decide)) rfl (da_cons (de_var (i := 5) rfl (.inr (.inl rfl))) da_nil)) da_nil))))) (ds_one (ds_if (dt_not (dt_val (de_fn D__law_like (hr.mono (by decide)) rfl (da_cons (de_var (i := 3) rfl (.inl rfl)) (da_cons (de_lst (da_cons (de_var (i := 5) rfl (.inr (.inl rfl))) (da_cons (de_var (i := 5) rfl (.inr (.inl rfl))) (da_cons (de_var (i := 4) rfl (.inl rfl)) da_nil)))) da_nil))))) (ds_one (ds_ret de_bool)) ds_nil)))) (ds_cons (ds_for1 PassesOwn.never rfl rfl hB.range_ (da_cons (de_add de_int (de_fn D__law_pull (hr.mono (by decide)) rfl (da_cons (de_var (i := 1) rfl (.inl rfl)) (da_cons de_int da_nil)))) da_nil) (dg_name sc_law.nd rfl (.inl rfl)) (ds_one (ds_set (i := 5) sc_law.nd rfl (.inr rfl) (de_fn D__law_bent_text (hr.mono (by decide)) rfl (da_cons (de_var (i := 1) rfl (.inl rfl)) (da_cons (de_var (i := 5) rfl (.inr (.inl rfl))) (da_cons (de_lst (da_cons de_str (da_cons de_str (da_cons de_str (da_cons de_str (da_cons de_str (da_cons de_str (da_cons de_str (da_cons de_str (da_cons de_str (da_cons de_str da_nil))))))))))) da_nil))))))) (ds_cons (ds_if (dt_not (dt_val (de_fn D__law_like (hr.mono (by decide)) rfl (da_cons (de_told (k := 4) TP (lamT_of tf hcd) (by decide) (hr.mono (by decide)) rfl (LamX.lamS_by rfl) (fun A outer s H E f c hr => (dx_fn DX_parse_script (hr.mono (by decide)) passes_lam rfl (da_cons (de_var (i := 5) rfl (.inr (.inr rfl))) da_nil)))) (da_cons (de_fn D__law_lines_due (hr.mono (by decide)) rfl (da_cons (de_var (i := 5) rfl (.inr (.inl rfl))) da_nil)) da_nil))))) (ds_one (ds_ret de_bool)) ds_nil) (ds_cons (ds_setO (i := 11) sc_law.nd rfl (.inr rfl) (de_cb cb_list (pe_callTy call_list_of rfl hB.list_ (by decide +kernel) (da_cons (de_var (i := 4) rfl (.inl rfl)) da_nil)))) (ds_cons (ds_ins (ps_expr (pe_bm PySem.F.plainAttrs_list PySem.F.slot_list_insert PySem.F.type_list_insert mt_insert (pe_var (i := 11) rfl (.inr (.inl rfl))) (pa_cons (de_fn D__law_pull (hr.mono (by decide)) rfl (da_cons (de_var (i := 1) rfl (.inl rfl)) (da_cons (de_add (de_cb cb_len (pe_callB call_len_seq rfl hB.len_ (by decide +kernel) (da_cons (de_var (i := 11) rfl (.inr (.inl rfl))) da_nil))) de_int) da_nil))) (pa_cons (de_fn D__law_odd_command (hr.mono (by decide)) rfl (da_cons (de_var (i := 1) rfl (.inl rfl)) da_nil)) pa_nil))))) (ds_one (ds_if (dt_cmp (op_neD (u64 hr)) r2_ne (de_told (k := 4) TP (lamT_of tf hcd) (by decide) (hr.mono (by decide)) rfl (LamX.lamS_by rfl) (fun A outer s H E f c hr => (dx_fn DX_script_text (hr.mono (by decide)) passes_lam rfl (da_cons (de_var (i := 11) rfl (.inr (.inr rfl))) da_nil)))) (de_tup (da_cons de_str (da_cons (de_fn D__law_due_command (hr.mono (by decide)) rfl (da_cons (de_var (i := 11) rfl (.inr (.inl rfl))) da_nil)) da_nil))) (nomark _)) (ds_one (ds_ret de_bool)) ds_nil))))))))))))) (ds_cons (ds_if (dt_not (dt_val (de_fn D__law_long_text_right (hr.mono (by decide)) rfl (da_cons (de_var (i := 1) rfl (.inl rfl)) da_nil)))) (ds_one (ds_ret de_bool)) ds_nil) (ds_cons (ds_setO (i := 3) sc_law.nd rfl (.inl rfl) (de_lst (da_cons (de_told (k := 4) TP (lamT_of tf hcd) (by decide) (hr.mono (by decide)) rfl (LamX.lamS_by rfl) (fun A outer s H E f c hr => (dx_fn DX_parse_script (hr.mono (by decide)) passes_lam rfl (da_cons de_str da_nil)))) da_nil))) (ds_cons (ds_app (ps_expr (pe_bm PySem.F.plainAttrs_list PySem.F.slot_list_append PySem.F.type_list_append mt_append (pe_var (i := 3) rfl (.inl rfl)) (pa_cons (de_told (k := 4) TP (lamT_of tf hcd) (by decide) (hr.mono (by decide)) rfl (LamX.lamS_by rfl) (fun A outer s H E f c hr => (dx_fn DX_parse_script (hr.mono (by decide)) passes_lam rfl (da_cons de_str da_nil)))) pa_nil)))) (ds_one (ds_ret (de_and (de_cmp (op_eqD (u64 hr)) r2_eq (de_var (i := 3) rfl (.inl rfl)) (de_lst (da_cons (de_tup (da_cons de_str (da_cons de_int da_nil))) (da_cons (de_tup (da_cons de_str (da_cons de_int da_nil))) da_nil))) (nomark _)) (de_and (de_cmp (op_eqD (u64 hr)) r2_eq (de_fn D_parse_script (hr.mono (by decide)) rfl (da_cons de_str da_nil)) (de_lst da_nil) (nomark _)) (de_one (de_cmp (op_eqD (u64 hr)) r2_eq (de_fn D_script_text (hr.mono (by decide)) rfl (da_cons (de_lst da_nil) da_nil)) de_str (nomark _)))))))))))
theorem F_law {P : Program} {w : World} {K : PySem.W.Frag} {T : Tab} {mg : Str → Option Value} {base : Heap} {f : Addr} {fd : FuncData} (F : FunD K "law" "law" (defArgs s_law) (defBody s_law) (defScope s_law) [] [] f fd) (D__law_bag : Fn P w K T mg base "_law_bag" 1 [] C__law_bag) (D__law_script : Fn P w K T mg base "_law_script" 4 [] C__law_script) (D__law_pull : Fn P w K T mg base "_law_pull" 1 [] C__law_pull) (hB : Bl mg) (D_parse_script : Fn P w K T mg base "parse_script" 4 [] C_parse_script) (D_script_text : Fn P w K T mg base "script_text" 4 [] C_script_text) (D__law_like : Fn P w K T mg base "_law_like" 12 [] C__law_like) (D__law_bent_text : Fn P w K T mg base "_law_bent_text" 3 [] C__law_bent_text) (D__law_lines_due : Fn P w K T mg base "_law_lines_due" 2 [] C__law_lines_due) (TP : TldP P w K T mg base 1) (DX_parse_script : FnX P w K T mg base "parse_script" 4 [] X_parse_script) (D__law_odd_command : Fn P w K T mg base "_law_odd_command" 3 [] C__law_odd_command) (DX_script_text : FnX P w K T mg base "script_text" 4 [] X_script_text) (D__law_due_command : Fn P w K T mg base "_law_due_command" 1 [] C__law_due_command) (D__law_long_text_right : Fn P w K T mg base "_law_long_text_right" 13 [] C__law_long_text_right) (tf : TabF T mg base fd "law.<locals>.<lambda>") : FnOk P w K mg base CX0 14 f fd P_law (spLaw K T) :=
  law_ok F sc_law t_law (rest := (defBody s_law).tail) rfl rfl (by decide) (fun cdv A outer s H E hcd hr => ⟨_, ps_set (i := 1) sc_law.nd rfl (.inl rfl) (de_fn D__law_bag (hr.mono (by decide)) rfl (da_cons (de_var (i := 0) rfl (.inl rfl)) da_nil)) rfl (by first | exact .inl rfl | exact .inr rfl), fun _ _ _ h => h, w_law D__law_script D__law_pull hB D_parse_script D_script_text D__law_like D__law_bent_text D__law_lines_due TP DX_parse_script D__law_odd_command DX_script_text D__law_due_command D__law_long_text_right tf hcd hr⟩) pure_law
theorem sc__law_told : FnScope NTold ["_law_ask"] (defScope s__law_told) := ⟨rfl, rfl, rfl, by decide +kernel, rfl, by decide +kernel, by decide +kernel⟩
theorem sc__law_field : FnScope ["_law_e"] ["_law_e"] (defScope s__law_field) := ⟨rfl, rfl, rfl, by decide +kernel, rfl, by decide +kernel, by decide +kernel⟩
theorem sc_BadCommand___init__ : FnScope ["self", "at"] ["self", "at"] (defScope s_BadCommand___init__) := ⟨rfl, rfl, rfl, by decide +kernel, rfl, by decide +kernel, by decide +kernel⟩
theorem sc_BadText___init__ : FnScope ["self", "at"] ["self", "at"] (defScope s_BadText___init__) := ⟨rfl, rfl, rfl, by decide +kernel, rfl, by decide +kernel, by decide +kernel⟩
abbrev Tb (K : PySem.W.Frag) : Tab := fun n => match n with  | 1000 => ((tabP K "law").2, ["law.<locals>.<lambda>"]) | 1001 => ((tabP K "_law_long_text_right").2, ["_law_long_text_right.<locals>.<lambda>"]) | _ => (0, [])
theorem facts {P : Program} {w : World} {K : PySem.W.Frag} {h : Heap} {mg : Str → Option Value} {f : Addr} (X : K.In h) (G : h.Ns mainGlobals mg) (hfa : mg ("law" : Str) = some (.ref f)) (c : Seen tss fns K) (hT0 : PySem.W.tabIn K "law" = some (tabP K "law")) (hT1 : PySem.W.tabIn K "_law_long_text_right" = some (tabP K "_law_long_text_right")) :
    ∃ fd : FuncData, (∀ (s : Shared) (v : Value), BindsTo s fd ⟨[v], []⟩ [("_law_script_here", v)]) ∧ ∀ base : Heap, K.In base → base.Ns mainGlobals mg → LamX.TabB base mg (tabP K "law").1 (tabP K "law").2 → LamX.TabB base mg (tabP K "_law_long_text_right").1 (tabP K "_law_long_text_right").2 → FnOk P w K mg base CX0 14 f fd ["_law_script_here"] (spLaw K (Tb K)) := by
  have hB : Bl mg := ⟨He.free_ok X G (c.t 20 (t := ts20) rfl), He.free_ok X G (c.t 21 (t := ts21) rfl), He.free_ok X G (c.t 22 (t := ts22) rfl), He.free_ok X G (c.t 23 (t := ts23) rfl), He.free_ok X G (c.t 24 (t := ts24) rfl), He.free_ok X G (c.t 25 (t := ts25) rfl), He.free_ok X G (c.t 26 (t := ts26) rfl), He.free_ok X G (c.t 27 (t := ts27) rfl), He.free_ok X G (c.t 28 (t := ts28) rfl), He.free_ok X G (c.t 29 (t := ts29) rfl), He.free_ok X G (c.t 30 (t := ts30) rfl), He.free_ok X G (c.t 31 (t := ts31) rfl), He.free_ok X G (c.t 32 (t := ts32) rfl), He.free_ok X G (c.t 33 (t := ts33) rfl), He.free_ok X G (c.t 34 (t := ts34) rfl), He.free_ok X G (c.t 35 (t := ts35) rfl), He.free_ok X G (c.t 36 (t := ts36) rfl)⟩
  have K_MOST_DIGITS : Cst K (Tb K) mg "MOST_DIGITS" (.int 18) := tCst_ok X G (c.t 37 (t := ts37) rfl)
  have K_DIGITS : Cst K (Tb K) mg "DIGITS" (.str "0123456789") := tCst_ok X G (c.t 38 (t := ts38) rfl)
  obtain ⟨fd__law_bag, G__law_bag⟩ := c.d 0 (d := df0) rfl
  have m__law_bag : mg "_law_bag" = some (.ref (He.fAd K ("_law_bag", none))) := He.glo_ok X G (c.t 0 (t := ts0) rfl)
  obtain ⟨fd__law_pull, G__law_pull⟩ := c.d 1 (d := df1) rfl
  have m__law_pull : mg "_law_pull" = some (.ref (He.fAd K ("_law_pull", none))) := He.glo_ok X G (c.t 1 (t := ts1) rfl)
  obtain ⟨fd__law_of, G__law_of⟩ := c.d 2 (d := df2) rfl
  have m__law_of : mg "_law_of" = some (.ref (He.fAd K ("_law_of", none))) := He.glo_ok X G (c.t 2 (t := ts2) rfl)
  obtain ⟨fd__law_command, G__law_command⟩ := c.d 3 (d := df3) rfl
  have m__law_command : mg "_law_command" = some (.ref (He.fAd K ("_law_command", none))) := He.glo_ok X G (c.t 3 (t := ts3) rfl)
  obtain ⟨fd__law_script, G__law_script⟩ := c.d 4 (d := df4) rfl
  have m__law_script : mg "_law_script" = some (.ref (He.fAd K ("_law_script", none))) := He.glo_ok X G (c.t 4 (t := ts4) rfl)
  obtain ⟨fd__law_like, G__law_like⟩ := c.d 5 (d := df5) rfl
  have m__law_like : mg "_law_like" = some (.ref (He.fAd K ("_law_like", none))) := He.glo_ok X G (c.t 5 (t := ts5) rfl)
  obtain ⟨fd_number_in, G_number_in⟩ := c.d 6 (d := df6) rfl
  have m_number_in : mg "number_in" = some (.ref (He.fAd K ("number_in", none))) := He.glo_ok X G (c.t 6 (t := ts6) rfl)
  obtain ⟨fd_numbers_in, G_numbers_in⟩ := c.d 7 (d := df7) rfl
  have m_numbers_in : mg "numbers_in" = some (.ref (He.fAd K ("numbers_in", none))) := He.glo_ok X G (c.t 7 (t := ts7) rfl)
  obtain ⟨fd_is_command, G_is_command⟩ := c.d 8 (d := df8) rfl
  have m_is_command : mg "is_command" = some (.ref (He.fAd K ("is_command", none))) := He.glo_ok X G (c.t 8 (t := ts8) rfl)
  obtain ⟨fd_command_in, G_command_in⟩ := c.d 9 (d := df9) rfl
  have m_command_in : mg "command_in" = some (.ref (He.fAd K ("command_in", none))) := He.glo_ok X G (c.t 9 (t := ts9) rfl)
  obtain ⟨fd_parse_script, G_parse_script⟩ := c.d 10 (d := df10) rfl
  have m_parse_script : mg "parse_script" = some (.ref (He.fAd K ("parse_script", none))) := He.glo_ok X G (c.t 10 (t := ts10) rfl)
  obtain ⟨fd__law_long_text_right, G__law_long_text_right⟩ := c.d 11 (d := df11) rfl
  have m__law_long_text_right : mg "_law_long_text_right" = some (.ref (He.fAd K ("_law_long_text_right", none))) := He.glo_ok X G (c.t 11 (t := ts11) rfl)
  obtain ⟨fd__law_bent_text, G__law_bent_text⟩ := c.d 12 (d := df12) rfl
  have m__law_bent_text : mg "_law_bent_text" = some (.ref (He.fAd K ("_law_bent_text", none))) := He.glo_ok X G (c.t 12 (t := ts12) rfl)
  obtain ⟨fd__law_odd_command, G__law_odd_command⟩ := c.d 13 (d := df13) rfl
  have m__law_odd_command : mg "_law_odd_command" = some (.ref (He.fAd K ("_law_odd_command", none))) := He.glo_ok X G (c.t 13 (t := ts13) rfl)
  obtain ⟨fd_check_script, G_check_script⟩ := c.d 14 (d := df14) rfl
  have m_check_script : mg "check_script" = some (.ref (He.fAd K ("check_script", none))) := He.glo_ok X G (c.t 14 (t := ts14) rfl)
  obtain ⟨fd_script_text, G_script_text⟩ := c.d 15 (d := df15) rfl
  have m_script_text : mg "script_text" = some (.ref (He.fAd K ("script_text", none))) := He.glo_ok X G (c.t 15 (t := ts15) rfl)
  obtain ⟨fd__law_plain_number, G__law_plain_number⟩ := c.d 16 (d := df16) rfl
  have m__law_plain_number : mg "_law_plain_number" = some (.ref (He.fAd K ("_law_plain_number", none))) := He.glo_ok X G (c.t 16 (t := ts16) rfl)
  obtain ⟨fd__law_due_command, G__law_due_command⟩ := c.d 17 (d := df17) rfl
  have m__law_due_command : mg "_law_due_command" = some (.ref (He.fAd K ("_law_due_command", none))) := He.glo_ok X G (c.t 17 (t := ts17) rfl)
  obtain ⟨fd__law_lines_due, G__law_lines_due⟩ := c.d 18 (d := df18) rfl
  have m__law_lines_due : mg "_law_lines_due" = some (.ref (He.fAd K ("_law_lines_due", none))) := He.glo_ok X G (c.t 18 (t := ts18) rfl)
  obtain ⟨fd_law, G_law⟩ := c.d 19 (d := df19) rfl
  have m_law : mg "law" = some (.ref (He.fAd K ("law", none))) := He.glo_ok X G (c.t 19 (t := ts19) rfl)
  have e := hfa.symm.trans m_law
  cases e
  refine ⟨fd_law, fun s v => FunD.bindsA (ps := ["_law_script_here"]) G_law (fun _ _ _ _ _ _ us hl => match us, hl with | [_], _ => rfl) s [v] rfl, fun base _ _ htb0 htb1 => ?_⟩
  obtain ⟨⟨TM0, TU0⟩, TM1, TU1⟩ := tabs2 (T := Tb K) (A := (tabP K "law").2) (B := (tabP K "_law_long_text_right").2) (q := "law.<locals>.<lambda>") (r := "_law_long_text_right.<locals>.<lambda>") rfl rfl (of_decide_eq_true (c.t 55 (t := ts55) rfl))
  obtain ⟨fd__law_told, G__law_told⟩ := c.d 20 (d := df20) rfl
  obtain ⟨fd__law_field, G__law_field⟩ := c.d 21 (d := df21) rfl
  obtain ⟨fd_BadCommand___init__, G_BadCommand___init__⟩ := c.d 22 (d := df22) rfl
  obtain ⟨fd_BadText___init__, G_BadText___init__⟩ := c.d 23 (d := df23) rfl
  have m__law_told : mg "_law_told" = some (.ref (He.fAd K ("_law_told", none))) := He.glo_ok X G (c.t 42 (t := ts42) rfl)
  have m__law_field : mg "_law_field" = some (.ref (He.fAd K ("_law_field", none))) := He.glo_ok X G (c.t 43 (t := ts43) rfl)
  have CK : ErrK K mg (He.ga K "SpanError") := errK_of X G (c.t 39 (t := ts39) rfl) (c.t 46 (t := ts46) rfl)
  have FP : FldP P w K (Tb K) mg base 1 := fld_mk G__law_field m__law_field sc__law_field (.inl rfl) CK (fun _ _ _ _ _ _ us hl => match us, hl with | [_], _ => rfl)
  have TP : TldP P w K (Tb K) mg base 1 := told_mk G__law_told m__law_told sc__law_told (fun _ _ _ _ _ _ us hl => match us, hl with | [_], _ => rfl) ⟨rfl, rfl, rfl, rfl, rfl, .inl rfl⟩ ⟨_, He.glo_ok X G (c.t 40 (t := ts40) rfl)⟩ ⟨_, He.glo_ok X G (c.t 41 (t := ts41) rfl)⟩ CK FP
  have ER_BadCommand : ErC P w K mg base "BadCommand" 1 ["at"] := erc_mk1 G_BadCommand___init__ sc_BadCommand___init__ (He.glo_ok X G (c.t 44 (t := ts44) rfl)) (tOex_ok (c.t 47 (t := ts47) rfl)) (He.meth_ok (c.t 48 (t := ts48) rfl)) (He.noat_ok (c.t 49 (t := ts49) rfl)) (He.noat_ok (c.t 50 (t := ts50) rfl)) (fun _ _ _ _ _ _ us hl => match us, hl with | [_, _], _ => rfl)
  have ER_BadText : ErC P w K mg base "BadText" 1 ["at"] := erc_mk1 G_BadText___init__ sc_BadText___init__ (He.glo_ok X G (c.t 45 (t := ts45) rfl)) (tOex_ok (c.t 51 (t := ts51) rfl)) (He.meth_ok (c.t 52 (t := ts52) rfl)) (He.noat_ok (c.t 53 (t := ts53) rfl)) (He.noat_ok (c.t 54 (t := ts54) rfl)) (fun _ _ _ _ _ _ us hl => match us, hl with | [_, _], _ => rfl)
  have D__law_bag : Fn P w K (Tb K) mg base "_law_bag" 1 [] C__law_bag := F__law_bag (T := Tb K) (base := base) G__law_bag m__law_bag hB
  have D__law_pull : Fn P w K (Tb K) mg base "_law_pull" 1 [] C__law_pull := F__law_pull (T := Tb K) (base := base) G__law_pull m__law_pull hB
  have D__law_of : Fn P w K (Tb K) mg base "_law_of" 2 [] C__law_of := F__law_of (T := Tb K) (base := base) G__law_of m__law_of D__law_pull hB
  have D__law_command : Fn P w K (Tb K) mg base "_law_command" 3 [] C__law_command := F__law_command (T := Tb K) (base := base) G__law_command m__law_command D__law_pull D__law_of
  have D__law_script : Fn P w K (Tb K) mg base "_law_script" 4 [] C__law_script := F__law_script (T := Tb K) (base := base) G__law_script m__law_script D__law_pull hB D__law_command
  have D__law_like : Fn P w K (Tb K) mg base "_law_like" 12 [] C__law_like := F__law_like (T := Tb K) (base := base) G__law_like m__law_like hB 10
  have D_number_in : Fn P w K (Tb K) mg base "number_in" 1 [] C_number_in := F_number_in (T := Tb K) (base := base) G_number_in m_number_in hB K_MOST_DIGITS K_DIGITS
  have D_numbers_in : Fn P w K (Tb K) mg base "numbers_in" 2 [] C_numbers_in := F_numbers_in (T := Tb K) (base := base) G_numbers_in m_numbers_in D_number_in
  have D_is_command : Fn P w K (Tb K) mg base "is_command" 1 [] C_is_command := F_is_command (T := Tb K) (base := base) G_is_command m_is_command 
  have D_command_in : Fn P w K (Tb K) mg base "command_in" 3 [] C_command_in := F_command_in (T := Tb K) (base := base) G_command_in m_command_in D_numbers_in hB D_is_command
  have DX_parse_script : FnX P w K (Tb K) mg base "parse_script" 4 [] X_parse_script := FX_parse_script (T := Tb K) (base := base) G_parse_script m_parse_script D_command_in ER_BadText hB
  have D_parse_script := DX_parse_script.calm calm_parse_script
  have D__law_long_text_right : Fn P w K (Tb K) mg base "_law_long_text_right" 13 [] C__law_long_text_right := F__law_long_text_right (T := Tb K) (base := base) G__law_long_text_right m__law_long_text_right D__law_pull D__law_like D_parse_script TP DX_parse_script (tabF_of X G hT1 m__law_long_text_right G__law_long_text_right htb1 TM1 TU1)
  have D__law_bent_text : Fn P w K (Tb K) mg base "_law_bent_text" 3 [] C__law_bent_text := F__law_bent_text (T := Tb K) (base := base) G__law_bent_text m__law_bent_text D__law_pull hB D__law_of
  have D__law_odd_command : Fn P w K (Tb K) mg base "_law_odd_command" 3 [] C__law_odd_command := F__law_odd_command (T := Tb K) (base := base) G__law_odd_command m__law_odd_command D__law_of
  have DX_check_script : FnX P w K (Tb K) mg base "check_script" 3 [] X_check_script := FX_check_script (T := Tb K) (base := base) G_check_script m_check_script D_is_command ER_BadCommand hB
  have DX_script_text : FnX P w K (Tb K) mg base "script_text" 4 [] X_script_text := FX_script_text (T := Tb K) (base := base) G_script_text m_script_text DX_check_script
  have D_script_text := DX_script_text.calm calm_script_text
  have D__law_plain_number : Fn P w K (Tb K) mg base "_law_plain_number" 1 [] C__law_plain_number := F__law_plain_number (T := Tb K) (base := base) G__law_plain_number m__law_plain_number hB
  have D__law_due_command : Fn P w K (Tb K) mg base "_law_due_command" 1 [] C__law_due_command := F__law_due_command (T := Tb K) (base := base) G__law_due_command m__law_due_command hB
  have D__law_lines_due : Fn P w K (Tb K) mg base "_law_lines_due" 2 [] C__law_lines_due := F__law_lines_due (T := Tb K) (base := base) G__law_lines_due m__law_lines_due hB D__law_plain_number D__law_due_command
  exact F_law (T := Tb K) G_law D__law_bag D__law_script D__law_pull hB D_parse_script D_script_text D__law_like D__law_bent_text D__law_lines_due TP DX_parse_script D__law_odd_command DX_script_text D__law_due_command D__law_long_text_right (tabF_of X G hT0 hfa G_law htb0 TM0 TU0)
end PR
open PySem PySem.W PySem.Calls PyProof.Rows
set_option maxHeartbeats 0 in
theorem PySem.Challenge.cw_spanrows_k58_whole_scripts_and_their_tex_holds : PySem.Challenge.rw_spanrows_k58_whole_scripts_and_their_tex.Holds := by
  w_on; o_law
  refine HandSHeadRun.head_any (r := PR.R) (q := view PR.R.prog [33]) (H := PR.hk) (ob := PR.ob) (M := 20000) (loose := PR.loose) (d := HandSHeadRun.topDef PR.R.prog 33) (kwd := []) PR.ob_eq
    (by kernel_rfl) (fun s => by kernel_rfl) PR.run (by kernel_rfl) (by kernel_rfl) (by kernel_rfl) (by rfl) (by first | assumption | decide +kernel) (by decide +kernel) ⟨rfl, rfl, rfl, rfl, rfl, by decide +kernel⟩ ?hw ?hc
  case hw => w_witness2
  case hc =>
    refine LamX.walk_ofTsE (l := PySem.Challenge.rw_spanrows_k58_whole_scripts_and_their_tex) (n := 63) (k := 14) (x := "_law_script_here") (CX := fun _ => L2.CX0) rfl (by decide) (by kernel_rfl) ⟨rfl, by decide, by decide⟩ ?F (fun _ _ _ _ _ z => z)
    intro w mg fa h Y G hmg0
    obtain ⟨K0, KX0, t, c⟩ := Y
    have KX := DL.hid_in (xs := (["law", "_law_long_text_right"] : List PySem.Str)) KX0
    have h0 : ("law" : PySem.Str) ∈ (["law", "_law_long_text_right"] : List PySem.Str) := by simp
    have h1 : ("_law_long_text_right" : PySem.Str) ∈ (["law", "_law_long_text_right"] : List PySem.Str) := by simp
    have hmg : mg ("law" : PySem.Str) = some (.ref fa) := by
      have e : (HandSHeadRun.topDef PR.R.prog 33).name = ("law" : PySem.Str) := by kernel_rfl
      rw [← e]
      exact hmg0
    obtain ⟨fd, hb, hF⟩ := PR.facts (P := (PySem.Challenge.rw_spanrows_k58_whole_scripts_and_their_tex).prog) (w := w) KX G hmg c (DL.tabP_hid t h0).2 (DL.tabP_hid t h1).2
    refine ⟨DL.hid (["law", "_law_long_text_right"] : List PySem.Str) K0, KX, fd, [DL.tabP (DL.hid (["law", "_law_long_text_right"] : List PySem.Str) K0) "law", DL.tabP (DL.hid (["law", "_law_long_text_right"] : List PySem.Str) K0) "_law_long_text_right"], DL.spLaw (DL.hid (["law", "_law_long_text_right"] : List PySem.Str) K0) (PR.Tb (DL.hid (["law", "_law_long_text_right"] : List PySem.Str) K0)), fun p hp => ?_, fun p hp => ?_, fun p hp => ?_, hb, fun H a ns hl _ hH hS => ⟨a, ns, rfl, hS, fun p hp => ?_, fun _ => rfl⟩, fun base b1 b2 b3 => hF base b1 b2 (b3 _ (List.mem_cons_self)) (b3 _ (List.mem_cons_of_mem _ List.mem_cons_self))⟩
    · simp only [List.mem_cons, List.not_mem_nil, or_false] at hp
      rcases hp with rfl | rfl
      · exact DL.tab_get t KX0 h0
      · exact DL.tab_get t KX0 h1
    · simp only [List.mem_cons, List.not_mem_nil, or_false] at hp
      rcases hp with rfl | rfl
      · exact DL.tab_no t h0
      · exact DL.tab_no t h1
    · simp only [List.mem_cons, List.not_mem_nil, or_false] at hp
      rcases hp with rfl | rfl
      · exact DL.tab_hd t KX0 h0
      · exact DL.tab_hd t KX0 h1
    · have hp : p ∈ [((DL.tabP (DL.hid (["law", "_law_long_text_right"] : List PySem.Str) K0) "law").2, ("law.<locals>.<lambda>" : PySem.Str)), ((DL.tabP (DL.hid (["law", "_law_long_text_right"] : List PySem.Str) K0) "_law_long_text_right").2, ("_law_long_text_right.<locals>.<lambda>" : PySem.Str))] := hp
      simp only [List.mem_cons, List.not_mem_nil, or_false] at hp
      rcases hp with rfl | rfl
      · exact LamX.TabS.nil (hH _ (List.mem_cons_self))
      · exact LamX.TabS.nil (hH _ (List.mem_cons_of_mem _ List.mem_cons_self))
