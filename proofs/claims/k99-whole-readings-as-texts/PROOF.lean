import PyProof.Rows.All
import Wide.All
import OpenK.AllK
import Wide.FinOn
import HandS.ForMost
import HandS.IsInst
import HandS.Walk
import HandS.DictComp
import HandS.Exc
import HandS.ExcOwn
import HandS.ExcInit
import HandS.WordsExc
import HandS.DictSubView
import KE.KDictSum
import PyProof.DictValues
import PyProof.EnumMake
import PyProof.Draws
import PyProof.TupleCall
import HandS.Zip
import KE.SortData
import KE.DataMinMax
import KE.DatumOrd
import HandS.TryMany
import HandS.Lambda
import PySem.Challenge.RW_lentaround_k99_whole_readings_as_texts
import HandS.NoneIn
import HandS.Text
import HandS.Codes
import HandS.RaiseMore
import HandS.Steps
import HandS.Style
import HandS.ListItems
import HandS.Conv
import HandS.ExcField
import HandS.Finally
import HandS.EndTab
set_option Elab.async false
set_option linter.all false
set_option maxRecDepth 100000
set_option maxHeartbeats 4000000
/-! DL1: data on the abstract heap, views with hidden places, what evaluates to which datum. -/
namespace DL
open PySem PySem.Spec PyProof.Rows L2

inductive D where
  | non | bl (b : Bool) | int (i : Int) | str (s : Str)
  | lst (l : List D) | tup (l : List D) | dic (ks : List L2.Key) (l : List D) | ins (C : Addr) (fs : List Str) (l : List D)
  deriving Inhabited

mutual
def Dt (H : Hp) : D → V → Prop
  | .non, v => v = .non
  | .bl b, v => v = .bl b
  | .int i, v => v = .int i
  | .str s, v => v = .str s
  | .lst l, v => ∃ a vs, v = .ref a ∧ H a = some (.lst vs) ∧ DtL H l vs
  | .tup l, v => ∃ a vs, v = .ref a ∧ H a = some (.tup vs) ∧ DtL H l vs
  | .dic ks l, v => ∃ a es, v = .ref a ∧ Rd H a (.dK es) ∧ es.map (·.1) = ks ∧ DtL H l (es.map (·.2))
  | .ins C fs l, v => ∃ a dx es, v = .ref a ∧ H a = some (.ins C dx es) ∧ es.map (·.1) = fs ∧ DtL H l (es.map (·.2))
def DtL (H : Hp) : List D → List V → Prop
  | [], vs => vs = []
  | d :: ds, vs => ∃ v r, vs = v :: r ∧ Dt H d v ∧ DtL H ds r
end

/-- (tables of code objects are hidden where they grow) -/
def notT : HO → Bool := fun _ => true
def notDF : HO → Bool
  | .tbl _ => false
  | .dK _ => false
  | .frz _ _ => false
  | _ => true
/-- all that was tracked is as it was -/
def Ex (H H' : Hp) : Prop := ∀ b o, H b = some o → notT o = true → H' b = some o
structure Le (H H' : Hp) : Prop where
  d : ∀ a es, Rd H a (.dK es) → Rd H' a (.dK es)
  o : ∀ a u, notDF u = true → H a = some u → H' a = some u
theorem Ex.refl (H : Hp) : Ex H H := fun _ _ h _ => h
theorem Ex.trans {A B C : Hp} (a : Ex A B) (b : Ex B C) : Ex A C := fun x o h n => b x o (a x o h n) n
theorem Ex.le {H H' : Hp} (e : Ex H H') : Le H H' := by
  refine ⟨fun a es h => ?_, fun a u n h => e a u h ?_⟩
  · rcases h with h | ⟨o, h⟩
    · exact .inl (e a _ h rfl)
    · exact .inr ⟨o, e a _ h rfl⟩
  · cases u <;> first | rfl | cases n
theorem Ex.rd {H H' : Hp} {a : Addr} {u : HO} (n : notT u = true) (e : Ex H H') (h : Rd H a u) : Rd H' a u := by
  rcases h with h | ⟨o, h⟩
  · exact .inl (e a _ h n)
  · exact .inr ⟨o, e a _ h rfl⟩
theorem Le.refl (H : Hp) : Le H H := (Ex.refl H).le
theorem Le.trans {A B C : Hp} (a : Le A B) (b : Le B C) : Le A C := ⟨fun x es h => b.d x es (a.d x es h), fun x u n h => b.o x u n (a.o x u n h)⟩

mutual
theorem Dt.mono {H H' : Hp} (e : Le H H') : ∀ {d : D} {v : V}, Dt H d v → Dt H' d v
  | .non, _, h => h
  | .bl _, _, h => h
  | .int _, _, h => h
  | .str _, _, h => h
  | .lst l, v, h => by
    obtain ⟨a, vs, r, x, q⟩ := (show ∃ a vs, v = .ref a ∧ H a = some (.lst vs) ∧ DtL H l vs from h)
    exact (show ∃ a vs, v = .ref a ∧ H' a = some (.lst vs) ∧ DtL H' l vs from ⟨a, vs, r, e.o a _ rfl x, DtL.mono e q⟩)
  | .tup l, v, h => by
    obtain ⟨a, vs, r, x, q⟩ := (show ∃ a vs, v = .ref a ∧ H a = some (.tup vs) ∧ DtL H l vs from h)
    exact (show ∃ a vs, v = .ref a ∧ H' a = some (.tup vs) ∧ DtL H' l vs from ⟨a, vs, r, e.o a _ rfl x, DtL.mono e q⟩)
  | .dic ks l, v, h => by
    obtain ⟨a, es, r, x, y, q⟩ := (show ∃ a es, v = .ref a ∧ Rd H a (.dK es) ∧ es.map (·.1) = ks ∧ DtL H l (es.map (·.2)) from h)
    exact (show ∃ a es, v = .ref a ∧ Rd H' a (.dK es) ∧ es.map (·.1) = ks ∧ DtL H' l (es.map (·.2)) from ⟨a, es, r, e.d a _ x, y, DtL.mono e q⟩)
  | .ins C fs l, v, h => by
    obtain ⟨a, dx, es, r, x, y, q⟩ := (show ∃ a dx es, v = .ref a ∧ H a = some (.ins C dx es) ∧ es.map (·.1) = fs ∧ DtL H l (es.map (·.2)) from h)
    exact (show ∃ a dx es, v = .ref a ∧ H' a = some (.ins C dx es) ∧ es.map (·.1) = fs ∧ DtL H' l (es.map (·.2)) from ⟨a, dx, es, r, e.o a _ rfl x, y, DtL.mono e q⟩)
theorem DtL.mono {H H' : Hp} (e : Le H H') : ∀ {ds : List D} {vs : List V}, DtL H ds vs → DtL H' ds vs
  | [], _, h => h
  | d :: ds, vs, h => by
    obtain ⟨v, r, x, p, q⟩ := (show ∃ v r, vs = v :: r ∧ Dt H d v ∧ DtL H ds r from h)
    exact (show ∃ v r, vs = v :: r ∧ Dt H' d v ∧ DtL H' ds r from ⟨v, r, x, Dt.mono e p, DtL.mono e q⟩)
end
section
variable {H : Hp}
theorem DtL.nil : DtL H [] [] := (show ([] : List V) = [] from rfl)
theorem DtL.cons {d : D} {ds : List D} {v : V} {vs : List V} (h : Dt H d v) (t : DtL H ds vs) : DtL H (d :: ds) (v :: vs) :=
  (show ∃ w r, v :: vs = w :: r ∧ Dt H d w ∧ DtL H ds r from ⟨v, vs, rfl, h, t⟩)
theorem DtL.nil_inv {vs : List V} (h : DtL H [] vs) : vs = [] := (show vs = [] from h)
theorem DtL.cons_inv {d : D} {ds : List D} {vs : List V} (h : DtL H (d :: ds) vs) : ∃ v r, vs = v :: r ∧ Dt H d v ∧ DtL H ds r := (show ∃ v r, vs = v :: r ∧ Dt H d v ∧ DtL H ds r from h)
theorem DtL.length : ∀ {ds : List D} {vs : List V}, DtL H ds vs → vs.length = ds.length
  | [], _, h => by rw [DtL.nil_inv h]; rfl
  | _ :: _, _, h => by
    obtain ⟨v, r, rfl, _, q⟩ := DtL.cons_inv h
    rw [List.length_cons, List.length_cons, DtL.length q]
theorem DtL.append : ∀ {ds es : List D} {vs ws : List V}, DtL H ds vs → DtL H es ws → DtL H (ds ++ es) (vs ++ ws)
  | [], _, _, _, h, k => by rw [DtL.nil_inv h]; exact k
  | _ :: _, _, _, _, h, k => by
    obtain ⟨v, r, rfl, p, q⟩ := DtL.cons_inv h
    exact DtL.cons p (DtL.append q k)
theorem DtL.get : ∀ {ds : List D} {vs : List V} {i : Nat} {v : V}, DtL H ds vs → vs[i]? = some v → ∃ d, ds[i]? = some d ∧ Dt H d v
  | [], _, i, v, h, e => by rw [DtL.nil_inv h] at e; simp at e
  | d :: ds, _, 0, v, h, e => by
    obtain ⟨w, r, rfl, p, q⟩ := DtL.cons_inv h
    simp at e; subst e; exact ⟨d, rfl, p⟩
  | d :: ds, _, i + 1, v, h, e => by
    obtain ⟨w, r, rfl, p, q⟩ := DtL.cons_inv h
    obtain ⟨x, h1, h2⟩ := DtL.get (i := i) q (by simpa using e)
    exact ⟨x, by simpa using h1, h2⟩
theorem DtL.at : ∀ {ds : List D} {vs : List V} {i : Nat} {d : D}, DtL H ds vs → ds[i]? = some d → ∃ v, vs[i]? = some v ∧ Dt H d v
  | [], _, i, v, h, e => by simp at e
  | d :: ds, _, 0, v, h, e => by
    obtain ⟨w, r, rfl, p, q⟩ := DtL.cons_inv h
    simp at e; subst e; exact ⟨w, rfl, p⟩
  | d :: ds, _, i + 1, v, h, e => by
    obtain ⟨w, r, rfl, p, q⟩ := DtL.cons_inv h
    obtain ⟨x, h1, h2⟩ := DtL.at (i := i) q (by simpa using e)
    exact ⟨x, by simpa using h1, h2⟩
theorem DtL.take : ∀ {ds : List D} {vs : List V} (n : Nat), DtL H ds vs → DtL H (ds.take n) (vs.take n)
  | _, _, 0, _ => DtL.nil
  | [], _, n + 1, h => by rw [DtL.nil_inv h]; exact DtL.nil
  | _ :: _, _, n + 1, h => by
    obtain ⟨v, r, rfl, p, q⟩ := DtL.cons_inv h
    exact DtL.cons p (DtL.take n q)
theorem DtL.drop : ∀ {ds : List D} {vs : List V} (n : Nat), DtL H ds vs → DtL H (ds.drop n) (vs.drop n)
  | _, _, 0, h => h
  | [], _, n + 1, h => by rw [DtL.nil_inv h]; exact DtL.nil
  | _ :: _, _, n + 1, h => by
    obtain ⟨v, r, rfl, p, q⟩ := DtL.cons_inv h
    exact DtL.drop n q
theorem DtL.ints : ∀ {ns : List Int} {vs : List V}, DtL H (ns.map D.int) vs → vs = ns.map V.int
  | [], _, h => DtL.nil_inv h
  | n :: ns, _, h => by
    obtain ⟨v, r, rfl, p, q⟩ := DtL.cons_inv h
    have p' : v = .int n := p
    rw [p', DtL.ints q]; rfl
theorem DtL.strs : ∀ {ns : List Str} {vs : List V}, DtL H (ns.map D.str) vs → vs = ns.map V.str
  | [], _, h => DtL.nil_inv h
  | n :: ns, _, h => by
    obtain ⟨v, r, rfl, p, q⟩ := DtL.cons_inv h
    have p' : v = .str n := p
    rw [p', DtL.strs q]; rfl
theorem DtL.bools : ∀ {ns : List Bool} {vs : List V}, DtL H (ns.map D.bl) vs → vs = ns.map V.bl
  | [], _, h => DtL.nil_inv h
  | n :: ns, _, h => by
    obtain ⟨v, r, rfl, p, q⟩ := DtL.cons_inv h
    have p' : v = .bl n := p
    rw [p', DtL.bools q]; rfl
theorem DtL.ofStrs : ∀ (ns : List Str), DtL H (ns.map D.str) (ns.map V.str)
  | [] => DtL.nil
  | n :: ns => DtL.cons (show V.str n = V.str n from rfl) (DtL.ofStrs ns)
theorem DtL.ofInts : ∀ (ns : List Int), DtL H (ns.map D.int) (ns.map V.int)
  | [] => DtL.nil
  | n :: ns => DtL.cons (show V.int n = V.int n from rfl) (DtL.ofInts ns)
end

/-! ### views -/
/-- a thing that may change on the way: where it stands, what holds of it -/
structure Md where
  S : List Addr
  I : Hp → Prop
  ex : ∀ H H' : Hp, (∀ b ∈ S, H' b = H b) → I H → I H'
  tr : ∀ H, I H → ∀ b ∈ S, ∃ o, H b = some o ∧ notT o = true
def M0 : Md := ⟨[], fun _ => True, fun _ _ _ _ => True.intro, fun _ _ _ h => nomatch h⟩
def Hd (M : Md) (F : List Addr) (H : Hp) : Hp := fun b => if b ∈ M.S ∨ b ∈ F then none else H b
section
variable {M : Md} {F G : List Addr} {H H' H1 H2 : Hp} {p : Addr}
theorem hd_some {b : Addr} {o : HO} : Hd M F H b = some o ↔ (b ∉ M.S ∧ b ∉ F) ∧ H b = some o := by
  unfold Hd
  by_cases h : b ∈ M.S ∨ b ∈ F
  · rw [if_pos h]
    exact ⟨(fun z => by cases z), fun z => (h.elim z.1.1 z.1.2).elim⟩
  · rw [if_neg h]
    exact ⟨fun z => ⟨⟨fun q => h (.inl q), fun q => h (.inr q)⟩, z⟩, fun z => z.2⟩
theorem hd_ex : Ex (Hd M F H) H := fun b o h _ => (hd_some.mp h).2
theorem hd_le : Le (Hd M F H) H := hd_ex.le
theorem hd_app : Hd M0 (M.S ++ F) H = Hd M F H := by
  funext b
  unfold Hd
  by_cases h : b ∈ M.S ∨ b ∈ F
  · rw [if_pos h, if_pos (.inr (List.mem_append.mpr h))]
  · rw [if_neg h, if_neg (fun z => z.elim (fun q => nomatch q) fun q => h (List.mem_append.mp q))]
theorem hd_nil : Hd M0 [] H = H := by
  funext b
  unfold Hd
  rw [if_neg (fun z => z.elim (fun q => nomatch q) fun q => nomatch q)]
theorem hd_sub (h : ∀ b, b ∈ F → b ∈ G) : Ex (Hd M G H) (Hd M F H) := fun b o e _ => by
  obtain ⟨⟨a, c⟩, q⟩ := hd_some.mp e
  exact hd_some.mpr ⟨⟨a, fun z => c (h b z)⟩, q⟩
structure Wd (M : Md) (F : List Addr) (B H : Hp) : Prop where
  e : Ex B (Hd M F H)
  i : M.I H
  f : ∀ b ∈ F, ∃ o, H b = some o ∧ notT o = true
structure Go (M : Md) (F : List Addr) (H H' : Hp) : Prop where
  e : Ex (Hd M F H) (Hd M F H')
  x : ∀ b ∈ F, H' b = H b
  i : M.I H'
theorem Go.refl (i : M.I H) : Go M F H H := ⟨Ex.refl _, fun _ _ => rfl, i⟩
theorem Go.trans (a : Go M F H H1) (b : Go M F H1 H2) : Go M F H H2 := ⟨a.e.trans b.e, fun c h => (b.x c h).trans (a.x c h), b.i⟩
variable {B : Hp}
theorem Wd.go (w : Wd M F B H) (g : Go M F H H') : Wd M F B H' := ⟨w.e.trans g.e, g.i, fun b h => by
  obtain ⟨o, e, n⟩ := w.f b h
  exact ⟨o, by rw [g.x b h, e], n⟩⟩
theorem Wd.now (w : Wd M F B H) : Wd M F (Hd M F H) H := ⟨Ex.refl _, w.i, w.f⟩
theorem Wd.up (w : Wd M F B H) {B' : Hp} (e : Ex B' B) : Wd M F B' H := ⟨e.trans w.e, w.i, w.f⟩
/-- nothing stands there, but a table perhaps -/
def Fr (H : Hp) (p : Addr) : Prop := ∀ o, H p = some o → notT o = true → False
theorem Fr.of {p : Addr} (h : H p = none) : Fr H p := fun o e _ => by rw [h] at e; cases e
/-- a place that is free is none of the hidden ones -/
theorem Wd.nS (w : Wd M F B H) {p : Addr} (h : Fr H p) : p ∉ M.S ∧ p ∉ F := by
  refine ⟨fun z => ?_, fun z => ?_⟩
  · obtain ⟨o, e, n⟩ := M.tr H w.i p z
    exact h o e n
  · obtain ⟨o, e, n⟩ := w.f p z
    exact h o e n
theorem Wd.back (w : Wd M F B H) (g : Go M F H H') {p : Addr} (h : Fr H' p) : Fr H p := fun o e n => by
  by_cases h1 : p ∈ M.S
  · obtain ⟨u, e2, n2⟩ := M.tr H' g.i p h1
    exact h u e2 n2
  · by_cases h2 : p ∈ F
    · exact h o (by rw [g.x p h2, e]) n
    · exact h o (hd_some.mp (g.e p o (hd_some.mpr ⟨⟨h1, h2⟩, e⟩) n)).2 n
/-- a new object -/
theorem Wd.new (w : Wd M F B H) {p : Addr} (h : H p = none) (o : HO) : Go M F H (upd H p o) := by
  obtain ⟨n1, n2⟩ := w.nS (Fr.of h)
  refine ⟨fun b u e _ => ?_, fun b hb => upd_ne (fun z => n2 (by rw [← z]; exact hb)), M.ex H _ (fun b hb => upd_ne (fun z => n1 (by rw [← z]; exact hb))) w.i⟩
  obtain ⟨q, e⟩ := hd_some.mp e
  exact hd_some.mpr ⟨q, by rw [upd_ne (ne_of_none e h)]; exact e⟩
/-- what leaves all tracked things -/
theorem Wd.pure (w : Wd M F B H) (e : Ex H H') : Go M F H H' := by
  refine ⟨fun b o h n => ?_, fun b hb => ?_, M.ex H H' (fun b hb => ?_) w.i⟩
  · obtain ⟨q, h⟩ := hd_some.mp h
    exact hd_some.mpr ⟨q, e b o h n⟩
  · obtain ⟨o, h, n⟩ := w.f b hb
    rw [h, e b o h n]
  · obtain ⟨o, h, n⟩ := M.tr H w.i b hb
    rw [h, e b o h n]
theorem hd_put (M : Md) {F : List Addr} {H : Hp} {p : Addr} {o : HO} (h : p ∈ F) : Hd M F (upd H p o) = Hd M F H := by
  funext b
  unfold Hd
  by_cases z : b ∈ M.S ∨ b ∈ F
  · rw [if_pos z, if_pos z]
  · rw [if_neg z, if_neg z, upd_ne fun q => z (.inr (by rw [q]; exact h))]
/-- a hidden place of ours is changed -/
theorem Wd.put (w : Wd M F B H) {p : Addr} (hp : p ∈ F) (hm : p ∉ M.S) {o : HO} (n : notT o = true) : Wd M F B (upd H p o) := by
  refine ⟨by rw [hd_put M hp]; exact w.e, M.ex H _ (fun b hb => upd_ne (fun z => hm (by rw [← z]; exact hb))) w.i, fun b hb => ?_⟩
  by_cases z : b = p
  · subst z; exact ⟨o, upd_same, n⟩
  · rw [upd_ne z]; exact w.f b hb
theorem rd_fr {H : Hp} {p : Addr} {u : HO} (n : notT u = true) (f : Fr H p) (h : Rd H p u) : False := by
  rcases h with h | ⟨o, h⟩
  · exact f _ h n
  · exact f _ h rfl
/-- a place that was free is hidden -/
theorem hd_hide (f : Fr H p) : Ex (Hd M F H) (Hd M (p :: F) H) := fun b u e n => by
  obtain ⟨q, e⟩ := hd_some.mp e
  refine hd_some.mpr ⟨⟨q.1, fun z => ?_⟩, e⟩
  rcases List.mem_cons.mp z with z | z
  · subst z; exact f u e n
  · exact q.2 z
theorem Ex.hide (e : Ex (Hd M F H) (Hd M F H')) (f : Fr H p) : Ex (Hd M F H) (Hd M (p :: F) H') := fun b u h n => by
  obtain ⟨q, h2⟩ := hd_some.mp (e b u h n)
  refine hd_some.mpr ⟨⟨q.1, fun z => ?_⟩, h2⟩
  rcases List.mem_cons.mp z with z | z
  · subst z; exact f u (hd_some.mp h).2 n
  · exact q.2 z
/-- a new place is hidden -/
theorem Wd.own (w : Wd M F B H) {p : Addr} (g : Go M F H H') (h : Fr H p) {o : HO} (hp : H' p = some o) (n : notT o = true) : Wd M (p :: F) (Hd M F H) H' ∧ Wd M (p :: F) B H' := by
  have a : Wd M (p :: F) (Hd M F H) H' := by
    refine ⟨g.e.hide h, g.i, fun b hb => ?_⟩
    rcases List.mem_cons.mp hb with z | z
    · subst z; exact ⟨o, hp, n⟩
    · obtain ⟨u, e, m⟩ := w.f b z
      exact ⟨u, by rw [g.x b z, e], m⟩
  exact ⟨a, a.up w.e⟩
end

section
variable {M : Md} {F : List Addr} {H H' H1 H2 B : Hp} {p : Addr} {o : HO}
theorem Go.drop (g : Go M (p :: F) H H') : Go M F H H' := by
  refine ⟨fun b u e n => ?_, fun b hb => g.x b (List.mem_cons_of_mem _ hb), g.i⟩
  obtain ⟨q, e⟩ := hd_some.mp e
  by_cases h : b = p
  · subst h
    exact hd_some.mpr ⟨q, by rw [g.x b List.mem_cons_self]; exact e⟩
  · have hn : b ∉ p :: F := fun z => (List.mem_cons.mp z).elim h q.2
    exact hd_some.mpr ⟨q, (hd_some.mp (g.e b u (hd_some.mpr ⟨⟨q.1, hn⟩, e⟩) n)).2⟩
theorem acc_put (p1 : Go M F H1 H2) (fr : Fr H1 p) (n : p ∉ F) (m : p ∉ M.S) (g : Go M (p :: F) H2 H) (w : Wd M (p :: F) B H) (ho : notT o = true) :
    Go M F H1 (upd H p o) ∧ Wd M (p :: F) B (upd H p o) := by
  have w' := w.put (p := p) (o := o) List.mem_cons_self m ho
  have e1 := (p1.e.trans g.drop.e)
  refine ⟨⟨fun b u h k => ?_, fun b hb => ?_, w'.i⟩, w'⟩
  · obtain ⟨q, h2⟩ := hd_some.mp (e1 b u h k)
    have nb : b ≠ p := fun z => fr u (by rw [← z]; exact (hd_some.mp h).2) k
    exact hd_some.mpr ⟨q, by rw [upd_ne nb]; exact h2⟩
  · rw [upd_ne (fun z => n (by rw [← z]; exact hb)), g.x b (List.mem_cons_of_mem _ hb), p1.x b hb]
end
/-! ### what evaluates to what -/
section
variable (M : Md)
def Ev (te : TE) (σ : L2.St) (B : Hp) (d : D) : Prop := ∀ F H (Q : VK), Wd M F B H → (∀ v H', Go M F H H' → Dt (Hd M F H') d v → Q v H') → te σ H Q
/-- a new list -/
def EvF (te : TE) (σ : L2.St) (B : Hp) (ds : List D) : Prop := ∀ F H (Q : VK), Wd M F B H →
  (∀ p vs H', Fr H p → Go M F H H' → H' p = some (.lst vs) → DtL (Hd M (p :: F) H') ds vs → Q (.ref p) H') → te σ H Q
/-- a new dict -/
def EvG (te : TE) (σ : L2.St) (B : Hp) (ks : List L2.Key) (ds : List D) : Prop := ∀ F H (Q : VK), Wd M F B H →
  (∀ p es H', Fr H p → Go M F H H' → H' p = some (.dK es) → es.map (·.1) = ks → DtL (Hd M (p :: F) H') ds (es.map (·.2)) → Q (.ref p) H') → te σ H Q
def EvT (tt : TT) (σ : L2.St) (B : Hp) (b : Bool) : Prop := ∀ F H (Q : Bool → Hp → Prop), Wd M F B H → (∀ H', Go M F H H' → Q b H') → tt σ H Q
def EvA (ta : TA) (σ : L2.St) (B : Hp) (ds : List D) : Prop := ∀ F H (Q : List V → Hp → Prop), Wd M F B H → (∀ vs H', Go M F H H' → DtL (Hd M F H') ds vs → Q vs H') → ta σ H Q
def EvO (to : TO) (σ : L2.St) (B : Hp) (o : Option Int) : Prop := ∀ F H (Q : Option Int → Hp → Prop), Wd M F B H → (∀ H', Go M F H H' → Q o H') → to σ H Q
/-- operations on values -/
def RV (r : R2) (d1 d2 d : D) : Prop := ∀ F B H x y (Q : VK), Wd M F B H → Dt (Hd M F H) d1 x → Dt (Hd M F H) d2 y → (∀ v H', Go M F H H' → Dt (Hd M F H') d v → Q v H') → r x y H Q
def RVF (r : R2) (d1 d2 : D) (ds : List D) : Prop := ∀ F B H x y (Q : VK), Wd M F B H → Dt (Hd M F H) d1 x → Dt (Hd M F H) d2 y →
  (∀ p vs H', Fr H p → Go M F H H' → H' p = some (.lst vs) → DtL (Hd M (p :: F) H') ds vs → Q (.ref p) H') → r x y H Q
def RU (r : V → Hp → VK → Prop) (d1 d : D) : Prop := ∀ F B H x (Q : VK), Wd M F B H → Dt (Hd M F H) d1 x → (∀ v H', Go M F H H' → Dt (Hd M F H') d v → Q v H') → r x H Q
def RC (r : List V → Hp → VK → Prop) (ds : List D) (d : D) : Prop := ∀ F B H vs (Q : VK), Wd M F B H → DtL (Hd M F H) ds vs → (∀ v H', Go M F H H' → Dt (Hd M F H') d v → Q v H') → r vs H Q
def RCF (r : List V → Hp → VK → Prop) (ds : List D) (es : List D) : Prop := ∀ F B H vs (Q : VK), Wd M F B H → DtL (Hd M F H) ds vs →
  (∀ p vs H', Fr H p → Go M F H H' → H' p = some (.lst vs) → DtL (Hd M (p :: F) H') es vs → Q (.ref p) H') → r vs H Q
end
section
variable {M : Md} {σ : L2.St} {B B' : Hp} {ta tb tc te : TE} {t u : TT} {d d1 d2 d3 : D} {r : R2}
theorem Go.le {F : List Addr} {H H' : Hp} (g : Go M F H H') : Le (Hd M F H) (Hd M F H') := g.e.le
theorem Ev.up (h : Ev M te σ B d) (e : Ex B B') : Ev M te σ B' d := fun F H Q w k => h F H Q (w.up e) k
theorem EvT.up {b : Bool} (h : EvT M t σ B b) (e : Ex B B') : EvT M t σ B' b := fun F H Q w k => h F H Q (w.up e) k
theorem EvA.up {ta : TA} {ds : List D} (h : EvA M ta σ B ds) (e : Ex B B') : EvA M ta σ B' ds := fun F H Q w k => h F H Q (w.up e) k
theorem EvF.ev {ds : List D} (h : EvF M te σ B ds) : Ev M te σ B (.lst ds) := fun F H Q w k => h F H Q w fun p vs H' hp g e hd => k _ H' g
  (show ∃ a vs, V.ref p = .ref a ∧ Hd M F H' a = some (.lst vs) ∧ DtL (Hd M F H') ds vs from
    ⟨p, vs, rfl, hd_some.mpr ⟨w.nS hp, e⟩, hd.mono (hd_sub fun b hb => List.mem_cons_of_mem _ hb).le⟩)
theorem EvG.ev {ks : List L2.Key} {ds : List D} (h : EvG M te σ B ks ds) : Ev M te σ B (.dic ks ds) := fun F H Q w k => h F H Q w fun p es H' hp g e hk hd => k _ H' g
  (show ∃ a es, V.ref p = .ref a ∧ Rd (Hd M F H') a (.dK es) ∧ es.map (·.1) = ks ∧ DtL (Hd M F H') ds (es.map (·.2)) from
    ⟨p, es, rfl, .inl (hd_some.mpr ⟨w.nS hp, e⟩), hk, hd.mono (hd_sub fun b hb => List.mem_cons_of_mem _ hb).le⟩)
theorem ev_is (h : Ev M te σ B d) (e : d = d1) : Ev M te σ B d1 := e ▸ h
theorem et_is {b c : Bool} (h : EvT M t σ B b) (e : b = c) : EvT M t σ B c := e ▸ h
theorem ef_is {a b : List D} (h : EvF M te σ B a) (e : a = b) : EvF M te σ B b := e ▸ h
theorem ev_var {i : Nat} {v : V} (h : σ[i]? = some (some v)) (hd : Dt B d v) : Ev M (tVar i) σ B d := fun F H Q w k => ⟨v, h, k v H (Go.refl w.i) (hd.mono w.e.le)⟩
theorem ev_int {i : Int} : Ev M (tC (.int i)) σ B (.int i) := fun F H Q w k => k _ H (Go.refl w.i) (show V.int i = V.int i from rfl)
theorem ev_str {i : Str} : Ev M (tC (.str i)) σ B (.str i) := fun F H Q w k => k _ H (Go.refl w.i) (show V.str i = V.str i from rfl)
theorem ev_bl {i : Bool} : Ev M (tC (.bl i)) σ B (.bl i) := fun F H Q w k => k _ H (Go.refl w.i) (show V.bl i = V.bl i from rfl)
theorem ev_non : Ev M (tC .non) σ B .non := fun F H Q w k => k _ H (Go.refl w.i) (show V.non = V.non from rfl)
theorem ev_op (ha : Ev M ta σ B d1) (hb : Ev M tb σ B d2) (hr : RV M r d1 d2 d) : Ev M (tOp r ta tb) σ B d := fun F H Q w k =>
  ha F H _ w fun x H1 g1 e1 => hb F H1 _ (w.go g1) fun y H2 g2 e2 => hr F B H2 x y Q ((w.go g1).go g2) (e1.mono g2.le) e2 fun v H3 g3 e3 => k v H3 ((g1.trans g2).trans g3) e3
theorem ef_op {ds : List D} (ha : Ev M ta σ B d1) (hb : Ev M tb σ B d2) (hr : RVF M r d1 d2 ds) : EvF M (tOp r ta tb) σ B ds := fun F H Q w k =>
  ha F H _ w fun x H1 g1 e1 => hb F H1 _ (w.go g1) fun y H2 g2 e2 => hr F B H2 x y Q ((w.go g1).go g2) (e1.mono g2.le) e2 fun p vs H3 hp g3 e3 h3 =>
    k p vs H3 (w.back (g1.trans g2) hp) ((g1.trans g2).trans g3) e3 h3
theorem ev_un {r : V → Hp → VK → Prop} (ha : Ev M ta σ B d1) (hr : RU M r d1 d) : Ev M (tUn r ta) σ B d := fun F H Q w k =>
  ha F H _ w fun x H1 g1 e1 => hr F B H1 x Q (w.go g1) e1 fun v H3 g3 e3 => k v H3 (g1.trans g3) e3
end
end DL

/-! DL2: operators, tests, arguments, displays, walks, comprehensions, calls by data. -/
namespace DL
open PySem PySem.Spec PyProof.Rows L2

/-- the value of a flat datum -/
def fl : D → Option V
  | .non => some .non
  | .bl b => some (.bl b)
  | .int i => some (.int i)
  | .str s => some (.str s)
  | _ => none
theorem fl_eq {H : Hp} {d : D} {u v : V} (h : fl d = some u) (k : Dt H d v) : v = u := by
  cases d <;> first | (cases h; exact k) | cases h
theorem fl_dt {H : Hp} {d : D} {u : V} (h : fl d = some u) : Dt H d u := by
  cases d <;> first | (cases h; rfl) | cases h
section
variable {M : Md} {σ : L2.St} {B B' : Hp} {ta tb tc te : TE} {t u : TT} {d d1 d2 d3 : D} {r : R2} {K : PySem.W.Frag}
theorem rv_fl {x y z : V} {d : D} (h1 : fl d1 = some x) (h2 : fl d2 = some y) (h3 : fl d = some z) (h : ∀ H Q, Q z H → r x y H Q) : RV M r d1 d2 d := fun F B H v w Q W e1 e2 k => by
  rw [fl_eq h1 e1, fl_eq h2 e2]
  exact h H Q (k z H (Go.refl W.i) (fl_dt h3))
theorem rv_I0 {g : Int → Int → V} {i j : Int} {z : D} (h : fl z = some (g i j)) : RV M (rI0 g) (.int i) (.int j) z := rv_fl rfl rfl h fun H Q q => ⟨i, j, rfl, rfl, q⟩
theorem rv_I {C : Int → Int → Prop} {g : Int → Int → V} {i j : Int} {z : D} (h : fl z = some (g i j)) (c : C i j) : RV M (rI C g) (.int i) (.int j) z := rv_fl rfl rfl h fun H Q q => ⟨i, j, rfl, rfl, c, q⟩
theorem rv_eq {x y : V} (h1 : fl d1 = some x) (h2 : fl d2 = some y) (h : scal x y = true) : RV M rEq d1 d2 (.bl (decide (x = y))) := rv_fl h1 h2 rfl fun H Q q => ⟨h, q⟩
theorem rv_ne {x y : V} (h1 : fl d1 = some x) (h2 : fl d2 = some y) (h : scal x y = true) : RV M rNe d1 d2 (.bl (!decide (x = y))) := rv_fl h1 h2 rfl fun H Q q => ⟨h, q⟩
theorem rv_eqI {i j : Int} : RV M rEq (.int i) (.int j) (.bl (decide (i = j))) := by
  have h := rv_eq (M := M) (d1 := .int i) (d2 := .int j) rfl rfl rfl
  have e : decide (V.int i = V.int j) = decide (i = j) := by simp
  rw [e] at h; exact h
theorem rv_neI {i j : Int} : RV M rNe (.int i) (.int j) (.bl (!decide (i = j))) := by
  have h := rv_ne (M := M) (d1 := .int i) (d2 := .int j) rfl rfl rfl
  have e : decide (V.int i = V.int j) = decide (i = j) := by simp
  rw [e] at h; exact h
theorem rv_eqS {i j : Str} : RV M rEq (.str i) (.str j) (.bl (decide (i = j))) := by
  have h := rv_eq (M := M) (d1 := .str i) (d2 := .str j) rfl rfl rfl
  have e : decide (V.str i = V.str j) = decide (i = j) := by simp
  rw [e] at h; exact h
theorem rv_neS {i j : Str} : RV M rNe (.str i) (.str j) (.bl (!decide (i = j))) := by
  have h := rv_ne (M := M) (d1 := .str i) (d2 := .str j) rfl rfl rfl
  have e : decide (V.str i = V.str j) = decide (i = j) := by simp
  rw [e] at h; exact h
theorem lst_inv {H : Hp} {l : List D} {v : V} (h : Dt H (.lst l) v) : ∃ a vs, v = .ref a ∧ H a = some (.lst vs) ∧ DtL H l vs := h
theorem tup_inv {H : Hp} {l : List D} {v : V} (h : Dt H (.tup l) v) : ∃ a vs, v = .ref a ∧ H a = some (.tup vs) ∧ DtL H l vs := h
theorem dic_inv {H : Hp} {ks : List L2.Key} {l : List D} {v : V} (h : Dt H (.dic ks l) v) : ∃ a es, v = .ref a ∧ Rd H a (.dK es) ∧ es.map (·.1) = ks ∧ DtL H l (es.map (·.2)) := h
theorem ins_inv {H : Hp} {C : Addr} {fs : List Str} {l : List D} {v : V} (h : Dt H (.ins C fs l) v) : ∃ a dx es, v = .ref a ∧ H a = some (.ins C dx es) ∧ es.map (·.1) = fs ∧ DtL H l (es.map (·.2)) := h
theorem lst_mk {H : Hp} {l : List D} {a : Addr} {vs : List V} (h : H a = some (.lst vs)) (k : DtL H l vs) : Dt H (.lst l) (.ref a) := (show ∃ b ws, V.ref a = .ref b ∧ H b = some (.lst ws) ∧ DtL H l ws from ⟨a, vs, rfl, h, k⟩)
theorem tup_mk {H : Hp} {l : List D} {a : Addr} {vs : List V} (h : H a = some (.tup vs)) (k : DtL H l vs) : Dt H (.tup l) (.ref a) := (show ∃ b ws, V.ref a = .ref b ∧ H b = some (.tup ws) ∧ DtL H l ws from ⟨a, vs, rfl, h, k⟩)
theorem dic_mk {H : Hp} {l : List D} {a : Addr} {es : List (L2.Key × V)} (h : Rd H a (.dK es)) (k : DtL H l (es.map (·.2))) : Dt H (.dic (es.map (·.1)) l) (.ref a) :=
  (show ∃ b ws, V.ref a = .ref b ∧ Rd H b (.dK ws) ∧ ws.map (·.1) = es.map (·.1) ∧ DtL H l (ws.map (·.2)) from ⟨a, es, rfl, h, rfl, k⟩)
theorem hdL {F : List Addr} {H : Hp} {a : Addr} {vs : List V} (h : Hd M F H a = some (.lst vs)) : H a = some (.lst vs) := (hd_some.mp h).2
theorem hdT {F : List Addr} {H : Hp} {a : Addr} {vs : List V} (h : Hd M F H a = some (.tup vs)) : H a = some (.tup vs) := (hd_some.mp h).2
theorem hdR {F : List Addr} {H : Hp} {a : Addr} {o : HO} (h : Rd (Hd M F H) a o) : Rd H a o := by
  rcases h with h | ⟨u, h⟩
  · exact .inl (hd_some.mp h).2
  · exact .inr ⟨u, (hd_some.mp h).2⟩
/-- an item -/
theorem atD {H : Hp} {l : List D} {vs : List V} {i : Int} {d : D} (h : DtL H l vs) (e : atI l i = some d) : ∃ v, atI vs i = some v ∧ Dt H d v := by
  unfold atI at e ⊢
  rw [h.length]
  cases q : ixN l.length i with
  | none => rw [q] at e; cases e
  | some j =>
    rw [q] at e
    exact DtL.at h e
theorem rv_ixL {l : List D} {i : Int} (h : atI l i = some d) : RV M (rIxL K) (.lst l) (.int i) d := fun F B H x y Q W e1 e2 k => by
  obtain ⟨a, vs, rfl, ha, hl⟩ := lst_inv e1
  have ey : y = .int i := e2
  obtain ⟨v, hv, dv⟩ := atD hl h
  exact ⟨a, vs, i, v, rfl, ey, SqL.of (hdL ha), hv, k v H (Go.refl W.i) dv⟩
theorem rv_ixT {l : List D} {i : Int} (h : atI l i = some d) : RV M (rIxT K) (.tup l) (.int i) d := fun F B H x y Q W e1 e2 k => by
  obtain ⟨a, vs, rfl, ha, hl⟩ := tup_inv e1
  have ey : y = .int i := e2
  obtain ⟨v, hv, dv⟩ := atD hl h
  exact ⟨a, vs, i, v, rfl, ey, SqT.of (hdT ha), hv, k v H (Go.refl W.i) dv⟩
/-- an item of a list or a tuple -/
def sq : D → Option (List D)
  | .lst l => some l
  | .tup l => some l
  | _ => none
theorem sq_get {H : Hp} {d : D} {l : List D} {v : V} (h : sq d = some l) (k : Dt H d v) : ∃ a vs, v = .ref a ∧ (H a = some (.lst vs) ∨ H a = some (.tup vs)) ∧ DtL H l vs := by
  cases d <;> first | cases h | skip
  · obtain ⟨a, vs, rfl, h1, h2⟩ := lst_inv k
    exact ⟨a, vs, rfl, .inl h1, h2⟩
  · obtain ⟨a, vs, rfl, h1, h2⟩ := tup_inv k
    exact ⟨a, vs, rfl, .inr h1, h2⟩
theorem rv_ix {l : List D} {i : Int} (hs : sq d1 = some l) (h : atI l i = some d) : RV M (rIx K) d1 (.int i) d := fun F B H x y Q W e1 e2 k => by
  obtain ⟨a, vs, rfl, ha, hl⟩ := sq_get hs e1
  have ey : y = .int i := e2
  obtain ⟨v, hv, dv⟩ := atD hl h
  rcases ha with ha | ha
  · exact .inl ⟨a, vs, i, v, rfl, ey, SqL.of (hdL ha), hv, k v H (Go.refl W.i) dv⟩
  · exact .inr (.inl ⟨a, vs, i, v, rfl, ey, SqT.of (hdT ha), hv, k v H (Go.refl W.i) dv⟩)
theorem rv_ixS {z : Str} {i : Int} {c : Nat} (hl : z.length ≤ sizeLine) (h : atI z.cps.toList i = some c) : RV M rIxS (.str z) (.int i) (.str ⟨#[c]⟩) := rv_fl rfl rfl rfl fun H Q q => ⟨z, i, c, rfl, rfl, hl, h, q⟩
/-- in: strings -/
theorem inV_strs (s : Str) : ∀ l : List Str, inV (.str s) (l.map V.str) = decide (s ∈ l)
  | [] => by simp [inV]
  | x :: l => by
    have h := inV_strs s l
    unfold inV at h ⊢
    rw [List.map_cons, List.any_cons, h]
    have e : eqV (V.str x) (V.str s) = decide (s = x) := by
      show (decide _) = _
      by_cases z : x = s
      · subst z; simp
      · have z' : ¬ s = x := fun q => z q.symm
        simp [z, z']
    rw [e]
    by_cases z : s = x <;> by_cases z2 : s ∈ l <;> simp [z, z2]
theorem flat_strs (l : List Str) : (l.map V.str).all flatV = true := by
  induction l with
  | nil => rfl
  | cons x l ih => exact ih
theorem rv_inS {s : Str} {l : List Str} (hs : sq d2 = some (l.map D.str)) : RV M (rIn K false) (.str s) d2 (.bl (decide (s ∈ l))) := fun F B H x y Q W e1 e2 k => by
  obtain ⟨a, vs, rfl, ha, hl⟩ := sq_get hs e2
  have ex : x = .str s := e1
  subst ex
  have ev := hl.strs
  subst ev
  refine ⟨a, _, rfl, ?_, rfl, flat_strs l, ?_⟩
  · rcases ha with ha | ha
    · exact .inl (SqL.of (hdL ha))
    · exact .inr (SqT.of (hdT ha))
  · rw [inV_strs]
    exact k _ H (Go.refl W.i) rfl
theorem rv_ninS {s : Str} {l : List Str} (hs : sq d2 = some (l.map D.str)) : RV M (rIn K true) (.str s) d2 (.bl (!decide (s ∈ l))) := fun F B H x y Q W e1 e2 k => by
  obtain ⟨a, vs, rfl, ha, hl⟩ := sq_get hs e2
  have ex : x = .str s := e1
  subst ex
  have ev := hl.strs
  subst ev
  refine ⟨a, _, rfl, ?_, rfl, flat_strs l, ?_⟩
  · rcases ha with ha | ha
    · exact .inl (SqL.of (hdL ha))
    · exact .inr (SqT.of (hdT ha))
  · rw [inV_strs]
    exact k _ H (Go.refl W.i) rfl

/-! ### tests -/
theorem et_val {b : Bool} (h : Ev M te σ B (.bl b)) : EvT M (tB te) σ B b := fun F H Q W k => h F H _ W fun v H' g e => ⟨b, e, k H' g⟩
theorem et_cmp {b : Bool} (h : Ev M te σ B (.bl b)) : EvT M (tTest te) σ B b := fun F H Q W k => h F H _ W fun v H' g e => ⟨b, e, k H' g⟩
theorem et_and {a b : Bool} (h1 : EvT M t σ B a) (h2 : a = true → EvT M u σ B b) : EvT M (tAnd t u) σ B (a && b) := fun F H Q W k => h1 F H _ W fun H1 g => by
  cases a with
  | true => exact iteT (h2 rfl F H1 Q (W.go g) fun H2 g2 => k H2 (g.trans g2))
  | false => exact iteF (k H1 g)
theorem et_or {a b : Bool} (h1 : EvT M t σ B a) (h2 : a = false → EvT M u σ B b) : EvT M (tOr t u) σ B (a || b) := fun F H Q W k => h1 F H _ W fun H1 g => by
  cases a with
  | true => exact iteT (k H1 g)
  | false => exact iteF (h2 rfl F H1 Q (W.go g) fun H2 g2 => k H2 (g.trans g2))
theorem et_not {a : Bool} (h1 : EvT M t σ B a) : EvT M (tNot t) σ B (!a) := fun F H Q W k => h1 F H _ W fun H1 g => k H1 g
theorem ev_andV {a b : Bool} (h1 : Ev M ta σ B (.bl a)) (h2 : a = true → Ev M tb σ B (.bl b)) : Ev M (tAndV ta tb) σ B (.bl (a && b)) := fun F H Q W k => h1 F H _ W fun v H1 g e => ⟨a, e, by
  cases a with
  | true => exact iteT (h2 rfl F H1 Q (W.go g) fun w H2 g2 e2 => k w H2 (g.trans g2) e2)
  | false => exact iteF (k _ H1 g rfl)⟩
theorem ev_orV {a b : Bool} (h1 : Ev M ta σ B (.bl a)) (h2 : a = false → Ev M tb σ B (.bl b)) : Ev M (tOrV ta tb) σ B (.bl (a || b)) := fun F H Q W k => h1 F H _ W fun v H1 g e => ⟨a, e, by
  cases a with
  | true => exact iteT (k _ H1 g rfl)
  | false => exact iteF (h2 rfl F H1 Q (W.go g) fun w H2 g2 e2 => k w H2 (g.trans g2) e2)⟩
theorem ev_notV {a : Bool} (h1 : Ev M ta σ B (.bl a)) : Ev M (tNotV ta) σ B (.bl (!a)) := fun F H Q W k => h1 F H _ W fun v H1 g e => ⟨a, e, k _ H1 g rfl⟩
theorem ev_if {b : Bool} (h : EvT M t σ B b) (h1 : b = true → Ev M ta σ B d) (h2 : b = false → Ev M tb σ B d) : Ev M (tIf t ta tb) σ B d := fun F H Q W k => h F H _ W fun H1 g => by
  cases b with
  | true => exact iteT (h1 rfl F H1 Q (W.go g) fun v H2 g2 e => k v H2 (g.trans g2) e)
  | false => exact iteF (h2 rfl F H1 Q (W.go g) fun v H2 g2 e => k v H2 (g.trans g2) e)
theorem ev_isN {x : V} (h : Ev M te σ B d) (e : fl d = some x) : Ev M (tIsN te) σ B (.bl (decide (x = .non))) := fun F H Q W k => h F H _ W fun v H1 g q => by
  rw [fl_eq e q]; exact k _ H1 g rfl
theorem ev_notN {x : V} (h : Ev M te σ B d) (e : fl d = some x) : Ev M (tNotN te) σ B (.bl (!decide (x = .non))) := fun F H Q W k => h F H _ W fun v H1 g q => by
  rw [fl_eq e q]; exact k _ H1 g rfl
/-- what is no scalar is not None -/
theorem dt_ref {H : Hp} {v : V} (h : fl d = none) (k : Dt H d v) : ∃ a, v = .ref a := by
  cases d <;> first | cases h | skip
  · obtain ⟨a, _, e, _⟩ := lst_inv k; exact ⟨a, e⟩
  · obtain ⟨a, _, e, _⟩ := tup_inv k; exact ⟨a, e⟩
  · obtain ⟨a, _, e, _⟩ := dic_inv k; exact ⟨a, e⟩
  · obtain ⟨a, _, _, e, _⟩ := ins_inv k; exact ⟨a, e⟩
def isNon : D → Bool
  | .non => true
  | _ => false
theorem isNon_dt {H : Hp} {v : V} (k : Dt H d v) : decide (v = V.non) = isNon d := by
  cases q : fl d with
  | none =>
    obtain ⟨a, rfl⟩ := dt_ref q k
    cases d <;> first | (cases q; simp [isNon]) | cases q
  | some u =>
    rw [fl_eq q k]
    cases d <;> first | (cases q; rfl) | (cases q; simp [isNon]) | cases q
theorem ev_isN' (h : Ev M te σ B d) : Ev M (tIsN te) σ B (.bl (isNon d)) := fun F H Q W k => h F H _ W fun v H1 g q => by
  rw [isNon_dt q]; exact k _ H1 g rfl
theorem ev_notN' (h : Ev M te σ B d) : Ev M (tNotN te) σ B (.bl (!isNon d)) := fun F H Q W k => h F H _ W fun v H1 g q => by
  rw [isNon_dt q]; exact k _ H1 g rfl
theorem et_isNr (h : Ev M te σ B d) {r : R2} (hr : ∀ F B H x (Q : VK), Wd M F B H → Dt (Hd M F H) d x → Q (.bl (isNon d)) H → r x .non H Q) : Ev M (tOp r te (tC .non)) σ B (.bl (isNon d)) := fun F H Q W k =>
  h F H _ W fun v H1 g e => hr F B H1 v Q (W.go g) e (k _ H1 g rfl)

/-! ### arguments, displays -/
theorem ea_nil : EvA M tNil σ B [] := fun F H Q W k => k [] H (Go.refl W.i) DtL.nil
theorem ea_cons {tr : TA} {ds : List D} (h : Ev M ta σ B d) (hr : EvA M tr σ B ds) : EvA M (tCons ta tr) σ B (d :: ds) := fun F H Q W k =>
  h F H _ W fun v H1 g e => hr F H1 _ (W.go g) fun vs H2 g2 es => k _ H2 (g.trans g2) (DtL.cons (e.mono g2.le) es)
theorem hidden_up {F : List Addr} {H : Hp} {p : Addr} {o : HO} (h : H p = none) : Ex (Hd M F H) (Hd M (p :: F) (upd H p o)) := fun b u e n => by
  obtain ⟨q, e⟩ := hd_some.mp e
  have nb : b ≠ p := ne_of_none e h
  exact hd_some.mpr ⟨⟨q.1, fun z => (List.mem_cons.mp z).elim nb q.2⟩, by rw [upd_ne nb]; exact e⟩
theorem ev_tup {tr : TA} {ds : List D} (h : EvA M tr σ B ds) (hz : ds.length ≤ sizeLine) : Ev M (tTup tr) σ B (.tup ds) := fun F H Q W k =>
  h F H _ W fun vs H1 g es => ⟨by rw [es.length]; exact hz, fun p hp => k _ _ (g.trans ((W.go g).new hp _))
    (tup_mk (hd_some.mpr ⟨(W.go g).nS (Fr.of hp), upd_same⟩) (es.mono ((hidden_up hp).trans (hd_sub fun b hb => List.mem_cons_of_mem _ hb)).le))⟩
theorem ef_lst {tr : TA} {ds : List D} (h : EvA M tr σ B ds) (hz : ds.length ≤ sizeLine) : EvF M (tLst tr) σ B ds := fun F H Q W k =>
  h F H _ W fun vs H1 g es => ⟨by rw [es.length]; exact hz, fun p hp => k p vs _ (W.back g (Fr.of hp)) (g.trans ((W.go g).new hp _)) upd_same (es.mono (hidden_up hp).le)⟩
theorem eg_dict0 : EvG M tDNewK σ B [] [] := fun F H Q W k p hp => k p [] _ (Fr.of hp) (W.new hp _) upd_same rfl DtL.nil
/-! ### built-ins -/
theorem ev_cb {r : List V → Hp → VK → Prop} {tr : TA} {ds : List D} (h : EvA M tr σ B ds) (hr : RC M r ds d) : Ev M (tCB r tr) σ B d := fun F H Q W k =>
  h F H _ W fun vs H1 g es => hr F B H1 vs Q (W.go g) es fun v H2 g2 e => k v H2 (g.trans g2) e
theorem ef_cb {r : List V → Hp → VK → Prop} {tr : TA} {ds es : List D} (h : EvA M tr σ B ds) (hr : RCF M r ds es) : EvF M (tCB r tr) σ B es := fun F H Q W k =>
  h F H _ W fun vs H1 g hs => hr F B H1 vs Q (W.go g) hs fun p vs H2 hp g2 e e2 => k p vs H2 (W.back g hp) (g.trans g2) e e2
theorem one_inv {H : Hp} {vs : List V} (h : DtL H [d] vs) : ∃ v, vs = [v] ∧ Dt H d v := by
  obtain ⟨v, r, e, p, q⟩ := DtL.cons_inv h
  have z := DtL.nil_inv q
  subst z
  exact ⟨v, e, p⟩
theorem two_inv {H : Hp} {vs : List V} (h : DtL H [d1, d2] vs) : ∃ v w, vs = [v, w] ∧ Dt H d1 v ∧ Dt H d2 w := by
  obtain ⟨v, r, e, p, q⟩ := DtL.cons_inv h
  obtain ⟨w, e2, q2⟩ := one_inv q
  subst e2
  exact ⟨v, w, e, p, q2⟩
/-- len of a list or tuple -/
theorem rc_len {l : List D} (hs : sq d = some l) : RC M (fun xs H Q => ∃ p ys, xs = [.ref p] ∧ (SqL K H p ys ∨ SqT K H p ys) ∧ Q (.int ys.length) H) [d] (.int (l.length : Int)) := fun F B H vs Q W e k => by
  obtain ⟨v, rfl, e1⟩ := one_inv e
  obtain ⟨a, vs, rfl, ha, hl⟩ := sq_get hs e1
  refine ⟨a, vs, rfl, ?_, ?_⟩
  · rcases ha with ha | ha
    · exact .inl (SqL.of (hdL ha))
    · exact .inr (SqT.of (hdT ha))
  · rw [hl.length]; exact k _ H (Go.refl W.i) rfl
theorem rcf_list {l : List D} (hs : sq d = some l) : RCF M (fun xs H Q => ∃ p ys, xs = [.ref p] ∧ (SqL K H p ys ∨ SqT K H p ys) ∧ ∀ l, H l = none → Q (.ref l) (upd H l (.lst ys))) [d] l := fun F B H vs Q W e k => by
  obtain ⟨v, rfl, e1⟩ := one_inv e
  obtain ⟨a, vs, rfl, ha, hl⟩ := sq_get hs e1
  refine ⟨a, vs, rfl, ?_, fun p hp => k p vs _ (Fr.of hp) (W.new hp _) upd_same (hl.mono (hidden_up hp).le)⟩
  rcases ha with ha | ha
  · exact .inl (SqL.of (hdL ha))
  · exact .inr (SqT.of (hdT ha))
theorem rc_all {bs : List Bool} : RC M (rAll K) [.lst (bs.map D.bl)] (.bl (bs.all id)) := fun F B H vs Q W e k => by
  obtain ⟨v, rfl, e1⟩ := one_inv e
  obtain ⟨a, vs, rfl, ha, hl⟩ := lst_inv e1
  rw [hl.bools] at ha
  exact ⟨a, bs, rfl, SqL.of (hdL ha), k _ H (Go.refl W.i) rfl⟩
theorem rc_any {bs : List Bool} : RC M (rAny K) [.lst (bs.map D.bl)] (.bl (bs.any id)) := fun F B H vs Q W e k => by
  obtain ⟨v, rfl, e1⟩ := one_inv e
  obtain ⟨a, vs, rfl, ha, hl⟩ := lst_inv e1
  rw [hl.bools] at ha
  exact ⟨a, bs, rfl, SqL.of (hdL ha), k _ H (Go.refl W.i) rfl⟩
theorem rc_sum {bs : List Int} : RC M (rSum K) [.lst (bs.map D.int)] (.int bs.sum) := fun F B H vs Q W e k => by
  obtain ⟨v, rfl, e1⟩ := one_inv e
  obtain ⟨a, vs, rfl, ha, hl⟩ := lst_inv e1
  rw [hl.ints] at ha
  exact ⟨a, bs, rfl, SqL.of (hdL ha), k _ H (Go.refl W.i) rfl⟩
end

/-! ### walks -/
section
variable (M : Md)
structure WkD (B : Hp) (J : It) (ys : List D) : Prop where
  ex : ∃ (G : Hp → Prop) (Y : Nat → Hp → V → Hp → Prop), Walk J ys.length G Y ∧ (∀ F H, Wd M F B H → G H) ∧
    ∀ F i H x H', i < ys.length → Wd M F B H → Y i H x H' → Go M F H H' ∧ ∃ d, ys[i]? = some d ∧ Dt (Hd M F H') d x
def EvI (wi : TI) (σ : L2.St) (B : Hp) (ys : List D) : Prop := ∀ F H (R : It → Hp → Prop), Wd M F B H → (∀ J H', Go M F H H' → WkD M (Hd M F H') J ys → R J H') → wi σ H R
end
section
variable {M : Md} {σ : L2.St} {B B' : Hp} {ta tb tc te tl : TE} {t u : TT} {d d1 d2 d3 : D} {r : R2} {K : PySem.W.Frag}
theorem ei_list {l : List D} (h : Ev M tl σ B (.lst l)) : EvI M (iList K tl) σ B l := fun F H R W k => h F H _ W fun v H1 g e => by
  obtain ⟨a, vs, rfl, ha, hl⟩ := lst_inv e
  refine ⟨a, rfl, ⟨vs, SqL.of (hdL ha)⟩, k _ H1 g ⟨_, _, by rw [← hl.length]; exact walk_list (xs := vs), fun F' H' W' => SqL.of (hdL (W'.e a _ ha rfl)), fun F' i H' x H2 hi W' y => ?_⟩⟩
  obtain ⟨rfl, y⟩ := y
  obtain ⟨d, h1, h2⟩ := hl.get y
  exact ⟨Go.refl W'.i, d, h1, h2.mono W'.e.le⟩
theorem ei_tup {l : List D} (h : Ev M tl σ B (.tup l)) : EvI M (iTup K tl) σ B l := fun F H R W k => h F H _ W fun v H1 g e => by
  obtain ⟨a, vs, rfl, ha, hl⟩ := tup_inv e
  refine ⟨a, rfl, ⟨vs, SqT.of (hdT ha)⟩, k _ H1 g ⟨_, _, by rw [← hl.length]; exact walk_tup (xs := vs), fun F' H' W' => SqT.of (hdT (W'.e a _ ha rfl)), fun F' i H' x H2 hi W' y => ?_⟩⟩
  obtain ⟨rfl, y⟩ := y
  obtain ⟨d, h1, h2⟩ := hl.get y
  exact ⟨Go.refl W'.i, d, h1, h2.mono W'.e.le⟩
def rangeD (lo : Int) (n : Nat) : List D := (List.range n).map fun i => D.int (lo + (i : Nat))
theorem rangeD_length {lo : Int} {n : Nat} : (rangeD lo n).length = n := by simp [rangeD]
theorem ei_rng1 {tr : TA} {n : Int} (h : EvA M tr σ B [.int n]) (h1 : -(2 ^ 62) ≤ n) (h2 : n < 2 ^ 62) : EvI M (iRng1 tr) σ B (rangeD 0 n.toNat) := fun F H R W k => h F H _ W fun vs H1 g e => by
  obtain ⟨v, rfl, e1⟩ := one_inv e
  have ev : v = .int n := e1
  subst ev
  refine ⟨n, rfl, h1, h2, k _ H1 g ⟨_, _, by rw [rangeD_length]; exact walk_range, fun _ _ _ => True.intro, fun F' i H' x H2 hi W' y => ?_⟩⟩
  obtain ⟨rfl, rfl⟩ := y
  rw [rangeD_length] at hi
  exact ⟨Go.refl W'.i, .int (0 + (i : Nat)), by simp [rangeD, hi], rfl⟩
theorem ei_rng2 {tr : TA} {lo n : Int} (h : EvA M tr σ B [.int lo, .int n]) (h1 : -(2 ^ 62) ≤ lo ∧ lo < 2 ^ 62 ∧ -(2 ^ 62) ≤ n ∧ n < 2 ^ 62) : EvI M (iRng2 tr) σ B (rangeD lo (n - lo).toNat) := fun F H R W k => h F H _ W fun vs H1 g e => by
  obtain ⟨v, w, rfl, e0, e2⟩ := two_inv e
  have ev : v = .int lo := e0
  have ew : w = .int n := e2
  subst ev; subst ew
  refine ⟨lo, n, rfl, h1, k _ H1 g ⟨_, _, by rw [rangeD_length]; exact walk_range, fun _ _ _ => True.intro, fun F' i H' x H2 hi W' y => ?_⟩⟩
  obtain ⟨rfl, rfl⟩ := y
  rw [rangeD_length] at hi
  exact ⟨Go.refl W'.i, .int (lo + (i : Nat)), by simp [rangeD, hi], rfl⟩
def signsD (z : Str) : List D := z.cps.toList.map fun c => D.str ⟨#[c]⟩
theorem ei_str {z : Str} (h : Ev M te σ B (.str z)) : EvI M (iStr te) σ B (signsD z) := fun F H R W k => h F H _ W fun v H1 g e => by
  have ev : v = .str z := e
  subst ev
  refine ⟨z, rfl, k _ H1 g ⟨_, _, by rw [signsD, List.length_map, Array.length_toList]; exact walk_str, fun _ _ _ => True.intro, fun F' i H' x H2 hi W' y => ?_⟩⟩
  obtain ⟨rfl, c, hc, rfl⟩ := y
  exact ⟨Go.refl W'.i, .str ⟨#[c]⟩, by simp [signsD, hc], rfl⟩
/-- a new pair at each turn -/
theorem pair_go {F : List Addr} {H : Hp} {B : Hp} {T : Addr} {x y : V} {dx dy : D} (W : Wd M F B H) (hT : H T = none) (h1 : Dt (Hd M F H) dx x) (h2 : Dt (Hd M F H) dy y) :
    Go M F H (upd H T (.tup [x, y])) ∧ Dt (Hd M F (upd H T (.tup [x, y]))) (.tup [dx, dy]) (.ref T) := by
  have g := W.new hT (.tup [x, y])
  exact ⟨g, tup_mk (hd_some.mpr ⟨W.nS (Fr.of hT), upd_same⟩) (DtL.cons (h1.mono g.le) (DtL.cons (h2.mono g.le) DtL.nil))⟩
def enumD (l : List D) : List D := (List.range l.length).map fun i => D.tup [.int (i : Nat), l.getD i .non]
theorem enumD_length {l : List D} : (enumD l).length = l.length := by simp [enumD]
theorem ei_enum {tr : TA} {l : List D} (h : EvA M tr σ B [.lst l]) : EvI M (iEnum K tr) σ B (enumD l) := fun F H R W k => h F H _ W fun vs H1 g e => by
  obtain ⟨v, rfl, e0⟩ := one_inv e
  obtain ⟨a, vs, rfl, ha, hl⟩ := lst_inv e0
  refine ⟨a, vs, rfl, SqL.of (hdL ha), k _ H1 g ⟨_, _, by rw [enumD_length, ← hl.length]; exact walk_enum (xs := vs), fun F' H' W' => SqL.of (hdL (W'.e a _ ha rfl)), fun F' i H' x H2 hi W' y => ?_⟩⟩
  obtain ⟨T, x1, y1, rfl, hT, rfl, e1, e2⟩ := y
  cases e1
  obtain ⟨d, h1, h2⟩ := hl.get e2
  obtain ⟨g2, q⟩ := pair_go W' hT (dx := .int (i : Nat)) (x := .int (i : Nat)) rfl (h2.mono W'.e.le)
  rw [enumD_length] at hi
  exact ⟨g2, .tup [.int (i : Nat), d], by simp [enumD, hi, (List.getElem?_eq_some_iff.mp h1).2], q⟩
def zipD (l m : List D) : List D := (l.zip m).map fun p => D.tup [p.1, p.2]
theorem ei_zip {tr : TA} {l m : List D} (h : EvA M tr σ B [.lst l, .lst m]) : EvI M (iZip K tr) σ B (zipD l m) := fun F H R W k => h F H _ W fun vs H1 g e => by
  obtain ⟨v, w, rfl, e0, e'⟩ := two_inv e
  obtain ⟨a, vs, rfl, ha, hl⟩ := lst_inv e0
  obtain ⟨b, ws, rfl, hb, hm⟩ := lst_inv e'
  refine ⟨a, b, vs, ws, rfl, SqL.of (hdL ha), SqL.of (hdL hb), k _ H1 g ⟨_, _, walk_zip (xs := vs) (ys := ws) (by simp [zipD, hl.length, hm.length]), fun F' H' W' => ⟨SqL.of (hdL (W'.e a _ ha rfl)), SqL.of (hdL (W'.e b _ hb rfl))⟩, fun F' i H' x H2 hi W' y => ?_⟩⟩
  obtain ⟨T, x1, y1, rfl, hT, rfl, e1, e2⟩ := y
  obtain ⟨d, h1, h2⟩ := hl.get e1
  obtain ⟨d', h1', h2'⟩ := hm.get e2
  obtain ⟨g2, q⟩ := pair_go W' hT (h2.mono W'.e.le) (h2'.mono W'.e.le)
  exact ⟨g2, .tup [d, d'], by rw [zipD, List.getElem?_map, (List.getElem?_zip_eq_some (z := (d, d'))).mpr ⟨h1, h1'⟩]; rfl, q⟩

/-! ### comprehensions -/
/-- the list of a comprehension over a walk: at each turn the test and, where it is kept, the element -/
def TurnC (M : Md) (g : TG) (t : TT) (te : TE) (σ : L2.St) (vs : List Nat) (B : Hp) (d : D) (b : Bool) (el : D) : Prop :=
  ∀ F B' H x (Q : L2.St → Hp → Prop), Ex B B' → Wd M F B' H → Dt B' d x → (∀ σ2, wipe σ2 vs = wipe σ vs → EvT M t σ2 B' b → (b = true → Ev M te σ2 B' el) → Q σ2 H) → g x (wipe σ vs) H Q
theorem take_filter_map {α β : Type} {ys : List α} {i : Nat} {d : α} (f : α → Bool) (el : α → β) (h : ys[i]? = some d) :
    ((ys.take (i + 1)).filter f).map el = ((ys.take i).filter f).map el ++ (if f d = true then [el d] else []) := by
  rw [List.take_succ, h]
  simp only [Option.toList_some, List.filter_append, List.map_append]
  cases q : f d <;> simp [q]
theorem ef_lcA {α : Type} {wi : TI} {g : TG} {vs : List Nat} {ys : List α} {en : α → D} (f : α → Bool) (el : α → D) (hi : EvI M wi σ B (ys.map en)) (hz : ys.length < sizeLine)
    (hg : ∀ a ∈ ys, TurnC M g t te σ vs B (en a) (f a) (el a)) : EvF M (tLc wi g t te vs) σ B ((ys.filter f).map el) := fun F H Q W k => hi F H _ W fun J H1 g1 wk => by
  obtain ⟨G, Y, w, hG, hY⟩ := wk.ex
  intro Dl hD
  have W1 := W.go g1
  have nD := W1.nS (Fr.of hD)
  refine lc_it w (fun i H' => Go M F H1 H' ∧ Wd M (Dl :: F) (Hd M F H1) H' ∧ ∃ acc, H' Dl = some (.lst acc) ∧ DtL (Hd M (Dl :: F) H') (((ys.take i).filter f).map el) acc) ?_ ?_ ?_ ?_
  · have g2 := W1.new hD (.lst [])
    exact ⟨g2, (W1.own g2 (Fr.of hD) upd_same rfl).1, [], upd_same, DtL.nil⟩
  · exact fun i H' _ p => hG _ H' p.2.1
  · rintro i x H2 H3 hlt ⟨p1, p2, acc, p3, p4⟩ y
    obtain ⟨g3, d0, hd0, dx⟩ := hY _ i H2 x H3 hlt p2 y
    have W3 := (p2.go g3)
    rw [List.getElem?_map] at hd0
    obtain ⟨d, hd, rfl⟩ := Option.map_eq_some_iff.mp hd0
    have hmem : d ∈ ys := List.mem_of_getElem? hd
    have Wn : Wd M (Dl :: F) (Hd M (Dl :: F) H3) H3 := W3.now
    refine hg d hmem (Dl :: F) (Hd M (Dl :: F) H3) H3 x _ ((W1.e).trans W3.e) Wn dx fun σ2 hw ht he => ⟨hw, ?_⟩
    refine ht (Dl :: F) H3 _ Wn fun H4 g4 => ?_
    cases hf : f d with
    | false =>
      refine iteF ⟨p1.trans ((g3.trans g4).drop), p2.go (g3.trans g4), acc, ?_, ?_⟩
      · rw [(g3.trans g4).x Dl List.mem_cons_self]; exact p3
      · rw [take_filter_map f el hd, hf]
        simp only [Bool.false_eq_true, if_false, List.append_nil]
        exact p4.mono (g3.trans g4).le
    | true =>
      refine iteT (he hf (Dl :: F) H4 _ (Wn.go g4) fun v H5 g5 e5 => ?_)
      have gg := (g3.trans g4).trans g5
      refine ⟨acc, by rw [gg.x Dl List.mem_cons_self]; exact p3, ?_, ?_⟩
      · have := p4.length
        have h1 := List.length_filter_le f (ys.take i)
        have h2 := List.length_take_le i ys
        rw [List.length_map] at this
        have hy : i < ys.length := (List.getElem?_eq_some_iff.mp hd).1
        omega
      · obtain ⟨a1, a2⟩ := acc_put (o := .lst (acc ++ [v])) p1 (Fr.of hD) nD.2 nD.1 gg (p2.go gg) rfl
        refine ⟨a1, a2, acc ++ [v], upd_same, ?_⟩
        rw [hd_put M List.mem_cons_self, take_filter_map f el hd, hf]
        exact DtL.append (p4.mono gg.le) (DtL.cons e5 DtL.nil)
  · rintro H' ⟨p1, p2, acc, p3, p4⟩
    rw [List.length_map, List.take_length] at p4
    exact k Dl acc H' (W.back g1 (Fr.of hD)) (g1.trans p1) p3 p4
theorem ef_lc {wi : TI} {g : TG} {vs : List Nat} {ys : List D} (f : D → Bool) (el : D → D) (hi : EvI M wi σ B ys) (hz : ys.length < sizeLine)
    (hg : ∀ d ∈ ys, TurnC M g t te σ vs B d (f d) (el d)) : EvF M (tLc wi g t te vs) σ B ((ys.filter f).map el) :=
  ef_lcA (en := id) f el (by rw [List.map_id]; exact hi) hz hg
theorem ef_lcmA {α : Type} {wi : TI} {g : TG} {vs : List Nat} {ys : List α} {en : α → D} (el : α → D) (hi : EvI M wi σ B (ys.map en)) (hz : ys.length < sizeLine)
    (hg : ∀ a ∈ ys, TurnC M g t te σ vs B (en a) true (el a)) : EvF M (tLc wi g t te vs) σ B (ys.map el) := by
  have h := ef_lcA (t := t) (te := te) (fun _ => true) el hi hz hg
  rw [List.filter_eq_self.mpr (fun _ _ => rfl)] at h
  exact h
/-- without a test -/
theorem ef_lcm {wi : TI} {g : TG} {vs : List Nat} {ys : List D} (el : D → D) (hi : EvI M wi σ B ys) (hz : ys.length < sizeLine)
    (hg : ∀ d ∈ ys, TurnC M g t te σ vs B d true (el d)) : EvF M (tLc wi g t te vs) σ B (ys.map el) := by
  have h := ef_lc (t := t) (te := te) (fun _ => true) el hi hz hg
  rw [List.filter_eq_self.mpr (fun _ _ => rfl)] at h
  exact h
theorem et_yes : EvT M tYes σ B true := fun F H Q W k => k H (Go.refl W.i)
/-- a name as the target -/
theorem turn_name {j : Nat} {vs : List Nat} {b : Bool} {el : D} (hw : ∀ x, wipe ((wipe σ vs).set j (some x)) vs = wipe σ vs)
    (h : ∀ B' x, Ex B B' → Dt B' d x → EvT M t ((wipe σ vs).set j (some x)) B' b ∧ (b = true → Ev M te ((wipe σ vs).set j (some x)) B' el)) : TurnC M (gName j) t te σ vs B d b el :=
  fun F B' H x Q e W dx k => k _ (hw x) (h B' x e dx).1 (h B' x e dx).2
end
end DL

/-! DL3: dicts walked, dict comprehensions, targets, fields, calls of defs, isinstance. -/
namespace DL
open PySem PySem.Spec PyProof.Rows L2

/-! ### a dict is locked while an expression reads it, or has been -/
def tLockR (t : TE) : TE := fun σ H Q => ∃ d es u, H d = some u ∧ Rd H d (.dK es) ∧ ∀ o, t σ (upd H d (.frz o (.dK es))) fun v H' => H' d = some (.frz o (.dK es)) ∧ Q v (upd H' d u)
theorem upd_id {H : Hp} {d : Addr} {u : HO} (h : H d = some u) : upd H d u = H := by
  funext b
  by_cases z : b = d
  · subst z; rw [upd_same, h]
  · rw [upd_ne z]
section
variable {X : Cx}
theorem pe_lockR {e : Expr} {t : TE} (h : PE X e t) : PE X e (tLockR t) := by
  refine ⟨fun pins s σ H Q I hw => ?_⟩
  obtain ⟨d, es, u, hd, hr, hw⟩ := hw
  rcases hr with hr | ⟨o, hr⟩
  · rw [hd] at hr
    cases hr
    obtain ⟨od, I1⟩ := I.lock hd True.intro
    refine thn (h.run pins s σ _ _ I1 (hw od)) fun v s1 ⟨x, H1, I2, r, e2, q⟩ => ?_
    exact ⟨x, _, I2.unlock e2 (I.nofrz hd True.intro), r, q⟩
  · rw [hd] at hr
    cases hr
    have q0 := hw o
    rw [upd_id hd] at q0
    refine thn (h.run pins s σ _ _ I q0) fun v s1 ⟨x, H1, I2, r, e2, q⟩ => ?_
    rw [upd_id e2] at q
    exact ⟨x, _, I2, r, q⟩
/-- a dict just made is locked for good -/
def tFz (t : TE) : TE := fun σ H Q => t σ H fun x H1 => ∃ d es, x = .ref d ∧ H1 d = some (.dK es) ∧ ∀ o, Q x (upd H1 d (.frz o (.dK es)))
theorem pe_fz {e : Expr} {t : TE} (h : PE X e t) : PE X e (tFz t) := by
  refine ⟨fun pins s σ H Q I hw => ?_⟩
  refine thn (h.run pins s σ _ _ I hw) fun v s1 ⟨x, H1, I2, r, d, es, e2, e3, q⟩ => ?_
  obtain ⟨od, I3⟩ := I2.lock e3 True.intro
  exact ⟨x, _, I3, r, q od⟩
end
section
variable {M : Md} {σ : L2.St} {B B' : Hp} {ta tb tc te tl td tk tv : TE} {t u : TT} {d d1 d2 d3 : D} {r : R2} {K : PySem.W.Frag}
theorem lock_le {H : Hp} {d : Addr} {es : List (L2.Key × V)} {o : Obj} (h : Rd H d (.dK es)) : Le H (upd H d (.frz o (.dK es))) := by
  refine ⟨fun a es' k => ?_, fun a u n k => ?_⟩
  · by_cases z : a = d
    · subst z
      have e : es' = es := by
        rcases h with h | ⟨_, h⟩ <;> rcases k with k | ⟨_, k⟩ <;> rw [h] at k <;> cases k <;> rfl
      subst e
      exact .inr ⟨o, upd_same⟩
    · rcases k with k | ⟨p, k⟩
      · exact .inl (by rw [upd_ne z]; exact k)
      · exact .inr ⟨p, by rw [upd_ne z]; exact k⟩
  · have z : a ≠ d := fun z => by
      subst z
      rcases h with h | ⟨_, h⟩ <;> rw [h] at k <;> cases k <;> cases n
    rw [upd_ne z]; exact k
theorem hd_upd {F : List Addr} {H : Hp} {d : Addr} {o : HO} (h1 : d ∉ M.S) (h2 : d ∉ F) : Hd M F (upd H d o) = upd (Hd M F H) d o := by
  funext b
  by_cases z : b = d
  · subst z
    rw [upd_same]
    exact hd_some.mpr ⟨⟨h1, h2⟩, upd_same⟩
  · rw [upd_ne z]
    unfold Hd
    by_cases q : b ∈ M.S ∨ b ∈ F
    · rw [if_pos q, if_pos q]
    · rw [if_neg q, if_neg q, upd_ne z]
theorem rd_hd {F : List Addr} {H : Hp} {a : Addr} {o : HO} (h : Rd (Hd M F H) a o) : a ∉ M.S ∧ a ∉ F := by
  rcases h with h | ⟨_, h⟩ <;> exact (hd_some.mp h).1
/-- .. an expression that walks the dict v; within it the dict stands locked -/
theorem lock_wd {F : List Addr} {H : Hp} {a : Addr} {es : List (L2.Key × V)} {o : Obj} (W : Wd M F B H) (h : Rd (Hd M F H) a (.dK es)) : Wd M F (Hd M F (upd H a (.frz o (.dK es)))) (upd H a (.frz o (.dK es))) := by
  obtain ⟨n1, n2⟩ := rd_hd h
  refine ⟨Ex.refl _, M.ex H _ (fun b hb => upd_ne fun z => n1 (by rw [← z]; exact hb)) W.i, fun b hb => ?_⟩
  rw [upd_ne fun z => n2 (by rw [← z]; exact hb)]; exact W.f b hb
theorem unlock_go {F : List Addr} {H H' : Hp} {a : Addr} {es : List (L2.Key × V)} {o : Obj} {u : HO} (W : Wd M F B H) (hu : H a = some u) (h : Rd (Hd M F H) a (.dK es)) (g : Go M F (upd H a (.frz o (.dK es))) H') (e : H' a = some (.frz o (.dK es))) :
    Go M F H (upd H' a u) ∧ Le (Hd M F H') (Hd M F (upd H' a u)) := by
  obtain ⟨n1, n2⟩ := rd_hd h
  have h' := hdR h
  have hu' : Rd (upd (Hd M F H') a u) a (.dK es) := by
    rcases h' with h' | ⟨o', h'⟩ <;> rw [h'] at hu <;> cases hu
    · exact .inl upd_same
    · exact .inr ⟨o', upd_same⟩
  refine ⟨⟨fun b x hb n => ?_, fun b hb => ?_, M.ex H' _ (fun b hb => upd_ne fun z => n1 (by rw [← z]; exact hb)) g.i⟩, ?_⟩
  · obtain ⟨q, hb⟩ := hd_some.mp hb
    by_cases z : b = a
    · subst z
      rw [hu] at hb; cases hb
      exact hd_some.mpr ⟨q, upd_same⟩
    · have := hd_some.mp (g.e b x (hd_some.mpr ⟨q, by rw [upd_ne z]; exact hb⟩) n)
      exact hd_some.mpr ⟨q, by rw [upd_ne z]; exact this.2⟩
  · have z : b ≠ a := fun z => n2 (by rw [← z]; exact hb)
    rw [upd_ne z, g.x b hb, upd_ne z]
  · rw [hd_upd n1 n2]
    have e' : Hd M F H' a = some (.frz o (.dK es)) := hd_some.mpr ⟨⟨n1, n2⟩, e⟩
    refine ⟨fun b es' k => ?_, fun b x n k => ?_⟩
    · by_cases z : b = a
      · subst z
        rcases k with k | ⟨_, k⟩ <;> rw [e'] at k <;> cases k
        exact hu'
      · rcases k with k | ⟨p, k⟩
        · exact .inl (by rw [upd_ne z]; exact k)
        · exact .inr ⟨p, by rw [upd_ne z]; exact k⟩
    · have z : b ≠ a := fun z => by
        subst z
        rw [e'] at k; cases k; cases n
      rw [upd_ne z]; exact k
/-- what is known of the locked dict within -/
def Lk (a : Addr) (es : List (L2.Key × V)) (B : Hp) : Prop := ∃ o, B a = some (.frz o (.dK es))
theorem ev_lockR {a : Addr} {ks : List L2.Key} {ds : List D} (hd : Dt B (.dic ks ds) (.ref a))
    (h : ∀ B' es, Le B B' → es.map (·.1) = ks → DtL B' ds (es.map (·.2)) → Lk a es B' → Ev M te σ B' d) : Ev M (tLockR te) σ B d := fun F H Q W k => by
  obtain ⟨a', es, ea, hr, hk, hl⟩ := dic_inv (hd.mono W.e.le)
  cases ea
  have hr' := hdR hr
  have hu : ∃ u, H a = some u := by
    rcases hr' with z | ⟨o, z⟩ <;> exact ⟨_, z⟩
  obtain ⟨u, hu⟩ := hu
  refine ⟨a, es, u, hu, hr', fun o => ?_⟩
  have W1 := lock_wd (o := o) W hr
  obtain ⟨n1, n2⟩ := rd_hd hr
  have e1 : Hd M F (upd H a (.frz o (.dK es))) a = some (.frz o (.dK es)) := hd_some.mpr ⟨⟨n1, n2⟩, upd_same⟩
  have le1 : Le (Hd M F H) (Hd M F (upd H a (.frz o (.dK es)))) := by rw [hd_upd n1 n2]; exact lock_le hr
  refine h (Hd M F (upd H a (.frz o (.dK es)))) es (W.e.le.trans le1) hk (hl.mono le1) ⟨o, e1⟩ F _ _ W1 fun v H' g e => ?_
  have e2 : H' a = some (.frz o (.dK es)) := (hd_some.mp (g.e a _ e1 rfl)).2
  obtain ⟨g2, l2⟩ := unlock_go W hu hr g e2
  exact ⟨e2, k v _ g2 (e.mono l2)⟩
theorem ef_lockR {a : Addr} {ks : List L2.Key} {ds es' : List D} (hd : Dt B (.dic ks ds) (.ref a))
    (h : ∀ B' es, Le B B' → es.map (·.1) = ks → DtL B' ds (es.map (·.2)) → Lk a es B' → EvF M te σ B' es') : EvF M (tLockR te) σ B es' := fun F H Q W k => by
  obtain ⟨a', es, ea, hr, hk, hl⟩ := dic_inv (hd.mono W.e.le)
  cases ea
  have hr' := hdR hr
  have hu : ∃ u, H a = some u := by
    rcases hr' with z | ⟨o, z⟩ <;> exact ⟨_, z⟩
  obtain ⟨u, hu⟩ := hu
  refine ⟨a, es, u, hu, hr', fun o => ?_⟩
  have W1 := lock_wd (o := o) W hr
  obtain ⟨n1, n2⟩ := rd_hd hr
  have e1 : Hd M F (upd H a (.frz o (.dK es))) a = some (.frz o (.dK es)) := hd_some.mpr ⟨⟨n1, n2⟩, upd_same⟩
  have le1 : Le (Hd M F H) (Hd M F (upd H a (.frz o (.dK es)))) := by rw [hd_upd n1 n2]; exact lock_le hr
  refine h (Hd M F (upd H a (.frz o (.dK es)))) es (W.e.le.trans le1) hk (hl.mono le1) ⟨o, e1⟩ F _ _ W1 fun p vs H' hp g e3 e4 => ?_
  have e2 : H' a = some (.frz o (.dK es)) := (hd_some.mp (g.e a _ e1 rfl)).2
  obtain ⟨g2, l2⟩ := unlock_go W hu hr g e2
  have hpa : p ≠ a := fun z => by
    subst z
    rw [e3] at e2; cases e2
  have hpF : Fr H p := fun o' q n => hp o' (by rw [upd_ne hpa]; exact q) n
  refine ⟨e2, k p vs _ hpF g2 (by rw [upd_ne hpa]; exact e3) ?_⟩
  -- the new list's items
  have g' : Go M (p :: F) H' H' := ⟨Ex.refl _, fun _ _ => rfl, g.i⟩
  have l3 : Le (Hd M (p :: F) H') (Hd M (p :: F) (upd H' a u)) := by
    have np : a ∉ p :: F := fun z => (List.mem_cons.mp z).elim (fun z => hpa z.symm) n2
    rw [hd_upd n1 np]
    have e' : Hd M (p :: F) H' a = some (.frz o (.dK es)) := hd_some.mpr ⟨⟨n1, np⟩, e2⟩
    have hu' : Rd (upd (Hd M (p :: F) H') a u) a (.dK es) := by
      rcases hr' with h' | ⟨o', h'⟩ <;> rw [h'] at hu <;> cases hu
      · exact .inl upd_same
      · exact .inr ⟨o', upd_same⟩
    refine ⟨fun b es' k => ?_, fun b x n k => ?_⟩
    · by_cases z : b = a
      · subst z
        rcases k with k | ⟨_, k⟩ <;> rw [e'] at k <;> cases k
        exact hu'
      · rcases k with k | ⟨p, k⟩
        · exact .inl (by rw [upd_ne z]; exact k)
        · exact .inr ⟨p, by rw [upd_ne z]; exact k⟩
    · have z : b ≠ a := fun z => by
        subst z
        rw [e'] at k; cases k; cases n
      rw [upd_ne z]; exact k
  exact e4.mono l3
end
/-! ### keys -/
def kD : L2.Key → D
  | .inl i => .int i
  | .inr s => .str s
theorem kD_dt {H : Hp} (k : L2.Key) : Dt H (kD k) (kV k) := by cases k <;> rfl
theorem kD_fl (k : L2.Key) : fl (kD k) = some (kV k) := by cases k <;> rfl
theorem kD_inv {H : Hp} {k : L2.Key} {v : V} (h : Dt H (kD k) v) : v = kV k := fl_eq (kD_fl k) h
/-- looked up -/
def lk : List L2.Key → List D → L2.Key → Option D
  | k :: ks, d :: ds, q => if k = q then some d else lk ks ds q
  | _, _, _ => none
theorem valV_lk {H : Hp} : ∀ {es : List (L2.Key × V)} {ds : List D} {q : L2.Key}, DtL H ds (es.map (·.2)) →
    (∀ d, lk (es.map (·.1)) ds q = some d → ∃ v, valV es q = some v ∧ Dt H d v) ∧ (lk (es.map (·.1)) ds q = none → valV es q = none)
  | [], ds, q, h => by
    refine ⟨fun d e => ?_, fun _ => rfl⟩
    cases ds <;> simp [lk] at e
  | (k, v) :: es, ds, q, h => by
    cases ds with
    | nil => exact absurd (DtL.nil_inv h) (by simp)
    | cons d ds =>
      obtain ⟨v', r, e, p, t⟩ := DtL.cons_inv h
      rw [List.map_cons] at e
      injection e with e1 e2
      subst e1; subst e2
      have ih := valV_lk (q := q) t
      by_cases z : k = q
      · subst z
        have ev : valV ((k, v) :: es) k = some v := by simp [valV]
        refine ⟨fun d' e => ?_, fun e => ?_⟩
        · simp [lk] at e; subst e
          exact ⟨v, ev, p⟩
        · simp [lk] at e
      · have ev : valV ((k, v) :: es) q = valV es q := by simp [valV, z]
        have el : lk (((k, v) :: es).map (·.1)) (d :: ds) q = lk (es.map (·.1)) ds q := by simp [lk, z]
        rw [ev, el]
        exact ih
section
variable {M : Md} {σ : L2.St} {B B' : Hp} {ta tb tc te tl td tk tv : TE} {t u : TT} {d d1 d2 d3 : D} {r : R2} {K : PySem.W.Frag}
theorem ev_dget {ks : List L2.Key} {ds : List D} {q : L2.Key} (h1 : Ev M td σ B (.dic ks ds)) (h2 : Ev M tk σ B (kD q)) (e : lk ks ds q = some d) : Ev M (tDGet td tk) σ B d := fun F H Q W k =>
  h1 F H _ W fun v H1 g1 e1 => h2 F H1 _ (W.go g1) fun w H2 g2 e2 => by
    obtain ⟨a, es, rfl, hr, hk, hl⟩ := dic_inv (e1.mono g2.le)
    subst hk
    obtain ⟨x, hx, dx⟩ := (valV_lk (q := q) hl).1 d e
    refine ⟨a, x, rfl, .inl ⟨es, q, hdR hr, kD_inv e2, hx.symm⟩, k x H2 (g1.trans g2) dx⟩
theorem ev_din {ks : List L2.Key} {ds : List D} {q : L2.Key} (h2 : Ev M tk σ B (kD q)) (h1 : Ev M td σ B (.dic ks ds)) : Ev M (tDIn tk td) σ B (.bl (lk ks ds q).isSome) := fun F H Q W k =>
  h2 F H _ W fun v H1 g1 e1 => h1 F H1 _ (W.go g1) fun w H2 g2 e2 => by
    obtain ⟨a, es, rfl, hr, hk, hl⟩ := dic_inv e2
    subst hk
    have z := valV_lk (q := q) hl
    refine ⟨a, valV es q, rfl, .inl ⟨es, q, hdR hr, kD_inv e1, rfl⟩, k _ H2 (g1.trans g2) ?_⟩
    cases ql : lk (es.map (·.1)) ds q with
    | none => rw [z.2 ql]; rfl
    | some y =>
      obtain ⟨x, hx, _⟩ := z.1 y ql
      rw [hx]; rfl
theorem ev_dnotin {ks : List L2.Key} {ds : List D} {q : L2.Key} (h2 : Ev M tk σ B (kD q)) (h1 : Ev M td σ B (.dic ks ds)) : Ev M (tDNotIn tk td) σ B (.bl (!(lk ks ds q).isSome)) := fun F H Q W k =>
  h2 F H _ W fun v H1 g1 e1 => h1 F H1 _ (W.go g1) fun w H2 g2 e2 => by
    obtain ⟨a, es, rfl, hr, hk, hl⟩ := dic_inv e2
    subst hk
    have z := valV_lk (q := q) hl
    refine ⟨a, valV es q, rfl, .inl ⟨es, q, hdR hr, kD_inv e1, rfl⟩, k _ H2 (g1.trans g2) ?_⟩
    cases ql : lk (es.map (·.1)) ds q with
    | none => rw [z.2 ql]; rfl
    | some y =>
      obtain ⟨x, hx, _⟩ := z.1 y ql
      rw [hx]; rfl
/-! ### walks over a locked dict -/
def itemsD (ks : List L2.Key) (ds : List D) : List D := (ks.zip ds).map fun p => D.tup [kD p.1, p.2]
theorem ei_items {a : Addr} {es : List (L2.Key × V)} {ds : List D} (h : ∀ F H Q, Wd M F B H → (∀ H', Go M F H H' → Q (.ref a) H') → td σ H Q) (hl : DtL B ds (es.map (·.2))) (lkd : Lk a es B) : EvI M (iItems td) σ B (itemsD (es.map (·.1)) ds) := fun F H R W k =>
  h F H _ W fun H1 g => by
    obtain ⟨o, ho⟩ := lkd
    have W1 := W.go g
    have h1 : Hd M F H1 a = some (.frz o (.dK es)) := W1.e a _ ho rfl
    have hl1 := hl.mono W1.e.le
    refine ⟨a, o, es, rfl, (hd_some.mp h1).2, k _ H1 g ⟨_, _, by rw [itemsD, List.length_map, List.length_zip, List.length_map, ← hl.length, List.length_map, Nat.min_self]; exact walk_items, fun F' H' W' => (hd_some.mp (W'.e a _ h1 rfl)).2, fun F' i H' x H2 hi W' y => ?_⟩⟩
    obtain ⟨T, x1, y1, rfl, hT, rfl, e1, e2⟩ := y
    obtain ⟨p, hp, rfl⟩ := Option.map_eq_some_iff.mp e1
    dsimp only at e2
    rw [hp] at e2
    cases e2
    have hv : (es.map (·.2))[i]? = some p.2 := by rw [List.getElem?_map, hp]; rfl
    obtain ⟨d', h1', h2'⟩ := hl1.get hv
    obtain ⟨g2, q⟩ := pair_go W' hT (kD_dt p.1) (h2'.mono W'.e.le)
    refine ⟨g2, .tup [kD p.1, d'], ?_, q⟩
    rw [itemsD, List.getElem?_map, (List.getElem?_zip_eq_some (z := (p.1, d'))).mpr ⟨by rw [List.getElem?_map, hp]; rfl, h1'⟩]
    rfl
theorem ei_keys {a : Addr} {es : List (L2.Key × V)} (h : ∀ F H Q, Wd M F B H → (∀ H', Go M F H H' → Q (.ref a) H') → td σ H Q) (lkd : Lk a es B) : EvI M (iKeys td) σ B (es.map fun p => kD p.1) := fun F H R W k =>
  h F H _ W fun H1 g => by
    obtain ⟨o, ho⟩ := lkd
    have W1 := W.go g
    have h1 : Hd M F H1 a = some (.frz o (.dK es)) := W1.e a _ ho rfl
    refine ⟨a, o, rfl, .inl ⟨es, (hd_some.mp h1).2, k _ H1 g ⟨_, _, by rw [List.length_map]; exact walk_keys, fun F' H' W' => (hd_some.mp (W'.e a _ h1 rfl)).2, fun F' i H' x H2 hi W' y => ?_⟩⟩⟩
    obtain ⟨rfl, q, v, e, rfl⟩ := y
    exact ⟨Go.refl W'.i, kD q, by rw [List.getElem?_map, e]; rfl, kD_dt q⟩
theorem ei_values {a : Addr} {es : List (L2.Key × V)} {ds : List D} (h : ∀ F H Q, Wd M F B H → (∀ H', Go M F H H' → Q (.ref a) H') → td σ H Q) (hl : DtL B ds (es.map (·.2))) (lkd : Lk a es B) : EvI M (iVals td) σ B ds := fun F H R W k =>
  h F H _ W fun H1 g => by
    obtain ⟨o, ho⟩ := lkd
    have W1 := W.go g
    have h1 : Hd M F H1 a = some (.frz o (.dK es)) := W1.e a _ ho rfl
    have hl1 := hl.mono W1.e.le
    have el : es.length = ds.length := by rw [← hl.length, List.length_map]
    refine ⟨a, o, es, rfl, (hd_some.mp h1).2, k _ H1 g ⟨_, _, by rw [← el]; exact walk_values, fun F' H' W' => (hd_some.mp (W'.e a _ h1 rfl)).2, fun F' i H' x H2 hi W' y => ?_⟩⟩
    obtain ⟨rfl, q, e⟩ := y
    have hv : (es.map (·.2))[i]? = some x := by rw [List.getElem?_map, e]; rfl
    obtain ⟨d', h1', h2'⟩ := hl1.get hv
    exact ⟨Go.refl W'.i, d', h1', h2'.mono W'.e.le⟩
/-- a name's own place -/
theorem at_var {i : Nat} {v : V} (h : σ[i]? = some (some v)) : ∀ F H (Q : VK), Wd M F B H → (∀ H', Go M F H H' → Q v H') → tVar i σ H Q := fun F H Q W k => ⟨v, h, k H (Go.refl W.i)⟩
/-- a walk over a dict just made (locked for good) -/
theorem ei_itemsF {ks : List L2.Key} {ds : List D} (h : EvG M td σ B ks ds) : EvI M (iItems (tFz td)) σ B (itemsD ks ds) := fun F H R W k => by
  refine h F H _ W fun p es H1 hp g e3 hk hl => ⟨p, es, rfl, e3, fun o => ?_⟩
  have W1 := W.go g
  have hn := W.nS hp
  subst hk
  have e1 : Hd M F (upd H1 p (.frz o (.dK es))) p = some (.frz o (.dK es)) := hd_some.mpr ⟨hn, upd_same⟩
  have gF : Go M F H (upd H1 p (.frz o (.dK es))) := by
    refine ⟨fun b u q n => ?_, fun b hb => ?_, M.ex H1 _ (fun b hb => upd_ne fun z => hn.1 (by rw [← z]; exact hb)) g.i⟩
    · have nb : b ≠ p := fun z => hp u (by rw [← z]; exact (hd_some.mp q).2) n
      obtain ⟨q1, q2⟩ := hd_some.mp (g.e b u q n)
      exact hd_some.mpr ⟨q1, by rw [upd_ne nb]; exact q2⟩
    · rw [upd_ne (fun z => hn.2 (by rw [← z]; exact hb)), g.x b hb]
  have l2 : DtL (Hd M F (upd H1 p (.frz o (.dK es)))) ds (es.map (·.2)) := by
    refine hl.mono ?_
    rw [← hd_put M (o := .frz o (.dK es)) List.mem_cons_self]
    exact (hd_sub fun b hb => List.mem_cons_of_mem _ hb).le
  refine ⟨p, o, es, rfl, upd_same, k _ _ gF ⟨_, _, by rw [itemsD, List.length_map, List.length_zip, List.length_map, ← l2.length, List.length_map, Nat.min_self]; exact walk_items, fun F' H' W' => (hd_some.mp (W'.e p _ e1 rfl)).2, fun F' i H' x H2 hi W' y => ?_⟩⟩
  obtain ⟨T, x1, y1, rfl, hT, rfl, e1', e2⟩ := y
  obtain ⟨q, hq, rfl⟩ := Option.map_eq_some_iff.mp e1'
  dsimp only at e2
  rw [hq] at e2
  cases e2
  have hv : (es.map (·.2))[i]? = some q.2 := by rw [List.getElem?_map, hq]; rfl
  obtain ⟨d', h1', h2'⟩ := l2.get hv
  obtain ⟨g2, qq⟩ := pair_go W' hT (kD_dt q.1) (h2'.mono W'.e.le)
  refine ⟨g2, .tup [kD q.1, d'], ?_, qq⟩
  rw [itemsD, List.getElem?_map, (List.getElem?_zip_eq_some (z := (q.1, d'))).mpr ⟨by rw [List.getElem?_map, hq]; rfl, h1'⟩]
  rfl
/-! ### targets -/
/-- a tuple of targets: what stands where behind it -/
def Tgs (M : Md) (t : TGs) (σ : L2.St) (B : Hp) (ds : List D) (R : L2.St → Hp → Prop) : Prop :=
  ∀ F B' H vs (Q : L2.St → Hp → Prop), Ex B B' → Wd M F B' H → DtL B' ds vs → (∀ σ2, R σ2 B' → Q σ2 H) → t vs σ H Q
def Tg (M : Md) (t : TG) (σ : L2.St) (B : Hp) (d : D) (R : L2.St → Hp → Prop) : Prop :=
  ∀ F B' H v (Q : L2.St → Hp → Prop), Ex B B' → Wd M F B' H → Dt B' d v → (∀ σ2, R σ2 B' → Q σ2 H) → t v σ H Q
theorem tg_name {j : Nat} {R : L2.St → Hp → Prop} (h : ∀ B' v, Ex B B' → Dt B' d v → R (σ.set j (some v)) B') : Tg M (gName j) σ B d R := fun F B' H v Q e W dv k => k _ (h B' v e dv)
theorem tgs_nil {R : L2.St → Hp → Prop} (h : ∀ B', Ex B B' → R σ B') : Tgs M gNil σ B [] R := fun F B' H vs Q e W dv k => ⟨DtL.nil_inv dv, k _ (h B' e)⟩
theorem tgs_cons {t : TG} {u : TGs} {ds : List D} {R : L2.St → Hp → Prop} (h : Tg M t σ B d fun σ1 B1 => Tgs M u σ1 B1 ds R) : Tgs M (gCons t u) σ B (d :: ds) R := fun F B' H vs Q e W dv k => by
  obtain ⟨v, r, rfl, p, q⟩ := DtL.cons_inv dv
  refine ⟨v, r, rfl, h F B' H v _ e W p fun σ1 h1 => h1 F B' H r Q (Ex.refl _) W q k⟩
theorem tg_tup {n : Nat} {t : TGs} {ds : List D} {R : L2.St → Hp → Prop} (hn : ds.length = n) (h : Tgs M t σ B ds R) : Tg M (gTup K n t) σ B (.tup ds) R := fun F B' H v Q e W dv k => by
  obtain ⟨a, vs, rfl, ha, hl⟩ := tup_inv dv
  exact ⟨a, vs, rfl, SqT.of (hdT (W.e a _ ha rfl)), by rw [hl.length]; exact hn, h F B' H vs Q e W hl k⟩
/-- .. as a comprehension's -/
theorem turn_tg {g : TG} {vs : List Nat} {b : Bool} {el : D} (h : Tg M g (wipe σ vs) B d fun σ2 B' => wipe σ2 vs = wipe σ vs ∧ EvT M t σ2 B' b ∧ (b = true → Ev M te σ2 B' el)) : TurnC M g t te σ vs B d b el :=
  fun F B' H x Q e W dx k => h F B' H x _ e W dx fun σ2 r => k σ2 r.1 r.2.1 r.2.2
/-! ### dict comprehensions -/
def TurnD (M : Md) (g : TG) (t : TT) (tk tv : TE) (σ : L2.St) (vs : List Nat) (B : Hp) (d : D) (b : Bool) (q : L2.Key) (el : D) : Prop :=
  ∀ F B' H x (Q : L2.St → Hp → Prop), Ex B B' → Wd M F B' H → Dt B' d x → (∀ σ2, wipe σ2 vs = wipe σ vs → EvT M t σ2 B' b → (b = true → Ev M tk σ2 B' (kD q) ∧ Ev M tv σ2 B' el) → Q σ2 H) → g x (wipe σ vs) H Q
theorem turnD_tg {g : TG} {vs : List Nat} {b : Bool} {q : L2.Key} {el : D} (h : Tg M g (wipe σ vs) B d fun σ2 B' => wipe σ2 vs = wipe σ vs ∧ EvT M t σ2 B' b ∧ (b = true → Ev M tk σ2 B' (kD q) ∧ Ev M tv σ2 B' el)) : TurnD M g t tk tv σ vs B d b q el :=
  fun F B' H x Q e W dx k => h F B' H x _ e W dx fun σ2 r => k σ2 r.1 r.2.1 r.2.2
theorem dc_it {J : It} {n : Nat} {G : Hp → Prop} {Y : Nat → Hp → V → Hp → Prop} (w : Walk J n G Y) {g : TG} {tt : TT} {vs : List Nat} {H1 : Hp} {Dl : Addr} {Qd : Hp → Prop} (Pv : Nat → Hp → Prop) (h0 : Pv 0 (upd H1 Dl (.dK []))) (hG : ∀ i H, i ≤ n → Pv i H → G H)
    (hs : ∀ i x H H', i < n → Pv i H → Y i H x H' → g x (wipe σ vs) H' fun σ2 H2 => wipe σ2 vs = wipe σ vs ∧ tt σ2 H2 fun b H3 =>
      if b = true then tk σ2 H3 fun y H4 => tv σ2 H4 fun z H5 => ∃ kvs k, y = kV k ∧ H5 Dl = some (.dK kvs) ∧ kvs.length < sizeLine ∧ Pv (i + 1) (upd H5 Dl (.dK (putK kvs k z))) else Pv (i + 1) H3) (hd : ∀ H, Pv n H → Qd H) :
    ∃ W : Nat → Nat → Hp → Prop, (∃ m, W 0 m (upd H1 Dl (.dK []))) ∧ ∀ i m H, W i m H →
      (J.stop i H ∧ Qd H) ∨ (J.go i H ∧ ∃ Nx : Hp → Prop, (∀ H', Nx H' → ∃ m', m' < m ∧ W (i + 1) m' H') ∧ ∀ x H', J.yld i H x H' → g x (wipe σ vs) H' fun σ2 H2 => wipe σ2 vs = wipe σ vs ∧ tt σ2 H2 fun b H3 =>
        if b = true then tk σ2 H3 fun y H4 => tv σ2 H4 fun z H5 => ∃ kvs k, y = kV k ∧ H5 Dl = some (.dK kvs) ∧ kvs.length < sizeLine ∧ Nx (upd H5 Dl (.dK (putK kvs k z))) else Nx H3) := by
  refine ⟨fun i m H => m = n - i ∧ i ≤ n ∧ Pv i H, ⟨n, by simp, Nat.zero_le _, h0⟩, ?_⟩
  rintro i m H ⟨rfl, hi, p⟩
  have q := hG i H hi p
  by_cases hlt : i < n
  · exact .inr ⟨w.goes i H hlt q, Pv (i + 1), fun H' p' => ⟨n - (i + 1), by omega, rfl, hlt, p'⟩, fun x H' y => hs i x H H' hlt p (w.yields i H x H' hlt q y)⟩
  · have e : i = n := by omega
    subst e
    exact .inl ⟨w.stops H q, hd H p⟩
theorem putK_new {kvs : List (L2.Key × V)} {k : L2.Key} {v : V} (h : k ∉ kvs.map (·.1)) : putK kvs k v = kvs ++ [(k, v)] := by
  unfold putK
  rw [if_neg]
  intro z
  obtain ⟨p, hp, e⟩ := List.any_eq_true.mp z
  exact h (List.mem_map.mpr ⟨p, hp, of_decide_eq_true e⟩)
theorem eg_dcA {α : Type} {wi : TI} {g : TG} {vs : List Nat} {ys : List α} {en : α → D} (f : α → Bool) (q : α → L2.Key) (el : α → D) (hi : EvI M wi σ B (ys.map en)) (hz : ys.length < sizeLine) (hn : ((ys.filter f).map q).Nodup)
    (hg : ∀ a ∈ ys, TurnD M g t tk tv σ vs B (en a) (f a) (q a) (el a)) : EvG M (tDc wi g t tk tv vs) σ B ((ys.filter f).map q) ((ys.filter f).map el) := fun F H Q W k => hi F H _ W fun J H1 g1 wk => by
  obtain ⟨G, Y, w, hG, hY⟩ := wk.ex
  intro Dl hD
  have W1 := W.go g1
  have nD := W1.nS (Fr.of hD)
  refine dc_it w (fun i H' => Go M F H1 H' ∧ Wd M (Dl :: F) (Hd M F H1) H' ∧ ∃ acc, H' Dl = some (.dK acc) ∧ acc.map (·.1) = ((ys.take i).filter f).map q ∧ DtL (Hd M (Dl :: F) H') (((ys.take i).filter f).map el) (acc.map (·.2))) ?_ ?_ ?_ ?_
  · have g2 := W1.new hD (.dK [])
    exact ⟨g2, (W1.own g2 (Fr.of hD) upd_same rfl).1, [], upd_same, rfl, DtL.nil⟩
  · exact fun i H' _ p => hG _ H' p.2.1
  · rintro i x H2 H3 hlt ⟨p1, p2, acc, p3, pk, p4⟩ y
    obtain ⟨g3, d0, hd0, dx⟩ := hY _ i H2 x H3 hlt p2 y
    have W3 := (p2.go g3)
    rw [List.getElem?_map] at hd0
    obtain ⟨d, hd, rfl⟩ := Option.map_eq_some_iff.mp hd0
    have hmem : d ∈ ys := List.mem_of_getElem? hd
    have Wn : Wd M (Dl :: F) (Hd M (Dl :: F) H3) H3 := W3.now
    refine hg d hmem (Dl :: F) (Hd M (Dl :: F) H3) H3 x _ ((W1.e).trans W3.e) Wn dx fun σ2 hw ht he => ⟨hw, ?_⟩
    refine ht (Dl :: F) H3 _ Wn fun H4 g4 => ?_
    cases hf : f d with
    | false =>
      refine iteF ⟨p1.trans ((g3.trans g4).drop), p2.go (g3.trans g4), acc, ?_, ?_, ?_⟩
      · rw [(g3.trans g4).x Dl List.mem_cons_self]; exact p3
      · rw [take_filter_map f q hd, hf, pk]
        simp only [Bool.false_eq_true, if_false, List.append_nil]
      · rw [take_filter_map f el hd, hf]
        simp only [Bool.false_eq_true, if_false, List.append_nil]
        exact p4.mono (g3.trans g4).le
    | true =>
      refine iteT ((he hf).1 (Dl :: F) H4 _ (Wn.go g4) fun y H5 g5 e5 => (he hf).2 (Dl :: F) H5 _ ((Wn.go g4).go g5) fun z H6 g6 e6 => ?_)
      have gg := ((g3.trans g4).trans g5).trans g6
      refine ⟨acc, q d, kD_inv e5, by rw [gg.x Dl List.mem_cons_self]; exact p3, ?_, ?_⟩
      · have := congrArg List.length pk
        have h1 := List.length_filter_le f (ys.take i)
        have h2 := List.length_take_le i ys
        rw [List.length_map, List.length_map] at this
        have hy : i < ys.length := (List.getElem?_eq_some_iff.mp hd).1
        omega
      · have hnew : q d ∉ acc.map (·.1) := by
          rw [pk]
          intro hm
          have e1 := take_filter_map f q hd
          rw [hf] at e1
          simp only [if_true] at e1
          have sub : (((ys.take (i + 1)).filter f).map q).Sublist ((ys.filter f).map q) := ((List.take_sublist _ _).filter f).map q
          have nd := hn.sublist sub
          rw [e1, List.nodup_append] at nd
          exact nd.2.2 _ hm _ (List.mem_singleton.mpr rfl) rfl
        rw [putK_new hnew]
        obtain ⟨a1, a2⟩ := acc_put (o := .dK (acc ++ [(q d, z)])) p1 (Fr.of hD) nD.2 nD.1 gg (p2.go gg) rfl
        refine ⟨a1, a2, acc ++ [(q d, z)], upd_same, ?_, ?_⟩
        · rw [take_filter_map f q hd, hf, List.map_append, pk]
          simp only [if_true, List.map_cons, List.map_nil]
        · rw [hd_put M List.mem_cons_self, take_filter_map f el hd, hf, List.map_append]
          exact DtL.append (p4.mono gg.le) (DtL.cons e6 DtL.nil)
  · rintro H' ⟨p1, p2, acc, p3, pk, p4⟩
    rw [List.length_map, List.take_length] at p4 pk
    exact k Dl acc H' (W.back g1 (Fr.of hD)) (g1.trans p1) p3 pk p4
theorem eg_dcm {α : Type} {wi : TI} {g : TG} {vs : List Nat} {ys : List α} {en : α → D} (q : α → L2.Key) (el : α → D) (hi : EvI M wi σ B (ys.map en)) (hz : ys.length < sizeLine) (hn : (ys.map q).Nodup)
    (hg : ∀ a ∈ ys, TurnD M g t tk tv σ vs B (en a) true (q a) (el a)) : EvG M (tDc wi g t tk tv vs) σ B (ys.map q) (ys.map el) := by
  have e : ys.filter (fun _ => true) = ys := List.filter_eq_self.mpr (fun _ _ => rfl)
  have h := eg_dcA (t := t) (tk := tk) (tv := tv) (fun _ => true) q el hi hz (by rw [e]; exact hn) hg
  rw [e] at h
  exact h
/-! ### fields -/
theorem lookup_zip {H : Hp} : ∀ {es : List (Str × V)} {ds : List D} {f : Str} {d : D}, DtL H ds (es.map (·.2)) → ((es.map (·.1)).zip ds).lookup f = some d → ∃ v, es.lookup f = some v ∧ Dt H d v
  | [], ds, f, d, h, e => by cases ds <;> simp at e
  | (g, v) :: es, ds, f, d, h, e => by
    cases ds with
    | nil => simp at e
    | cons d' ds =>
      obtain ⟨v', r, e', p, t⟩ := DtL.cons_inv h
      rw [List.map_cons] at e'
      injection e' with e1 e2
      subst e1; subst e2
      simp only [List.map_cons, List.zip_cons_cons, List.lookup_cons] at e ⊢
      cases q : f == g with
      | true =>
        rw [q] at e
        cases e
        exact ⟨v, by simp, p⟩
      | false =>
        rw [q] at e
        simpa using lookup_zip t e
theorem ev_fld {C : Addr} {fs : List Str} {l : List D} {f : Str} (c : Cls K C) (n : NoAttr K C f) (h : Ev M te σ B (.ins C fs l)) (e : (fs.zip l).lookup f = some d) : Ev M (tFld K te f) σ B d := fun F H Q W k =>
  h F H _ W fun v H1 g q => by
    obtain ⟨a, dx, es, rfl, ha, hk, hl⟩ := ins_inv q
    subst hk
    obtain ⟨x, hx, dx'⟩ := lookup_zip hl e
    exact ⟨a, C, dx, es, x, rfl, (hd_some.mp ha).2, c, n, hx, k x H1 g dx'⟩
/-! ### defs of the program's own that change nothing -/
def SpP (pre : List D → Prop) (f : List D → D) : Sp := fun vs H Q _ => ∃ F ds, (∀ b ∈ F, ∃ o, H b = some o ∧ notT o = true) ∧ DtL (Hd M0 F H) ds vs ∧ pre ds ∧
  ∀ v H', Go M0 F H H' → Dt (Hd M0 F H') (f ds) v → Q v H'
theorem go_app {F : List Addr} {H H' : Hp} (W : Wd M F B H) (g : Go M0 (M.S ++ F) H H') : Go M F H H' := by
  refine ⟨?_, fun b hb => g.x b (List.mem_append.mpr (.inr hb)), M.ex H H' (fun b hb => g.x b (List.mem_append.mpr (.inl hb))) W.i⟩
  have e := g.e
  rw [hd_app, hd_app] at e
  exact e
theorem app_tr {F : List Addr} {H : Hp} (W : Wd M F B H) : ∀ b ∈ M.S ++ F, ∃ o, H b = some o ∧ notT o = true := fun b hb => by
  rcases List.mem_append.mp hb with h | h
  · exact M.tr H W.i b h
  · exact W.f b h
theorem ev_call {pre : List D → Prop} {f : List D → D} {E : XK} {tr : TA} {ds : List D} (h : EvA M tr σ B ds) (p : pre ds) : Ev M (tCall (SpP pre f) [] E tr) σ B (f ds) := fun F H Q W k =>
  h F H _ W fun vs H1 g e => by
    have W1 := W.go g
    refine ⟨M.S ++ F, ds, app_tr W1, by rw [hd_app, List.append_nil]; exact e, p, fun v H' g' e' => ?_⟩
    rw [hd_app] at e'
    exact k v H' (g.trans (go_app W1 g')) e'
/-- .. that hand back a new list -/
def SpL (pre : List D → Prop) (f : List D → List D) : Sp := fun vs H Q _ => ∃ F ds, (∀ b ∈ F, ∃ o, H b = some o ∧ notT o = true) ∧ DtL (Hd M0 F H) ds vs ∧ pre ds ∧
  ∀ p ws H', Fr H p → Go M0 F H H' → H' p = some (.lst ws) → DtL (Hd M0 (p :: F) H') (f ds) ws → Q (.ref p) H'
theorem hd_app_cons {F : List Addr} {H : Hp} {p : Addr} : Hd M0 (p :: (M.S ++ F)) H = Hd M (p :: F) H := by
  funext b
  unfold Hd
  have e : (b ∈ M0.S ∨ b ∈ p :: (M.S ++ F)) ↔ (b ∈ M.S ∨ b ∈ p :: F) := by
    constructor
    · rintro (h | h)
      · exact nomatch h
      · rcases List.mem_cons.mp h with h | h
        · exact .inr (List.mem_cons.mpr (.inl h))
        · rcases List.mem_append.mp h with h | h
          · exact .inl h
          · exact .inr (List.mem_cons.mpr (.inr h))
    · rintro (h | h)
      · exact .inr (List.mem_cons.mpr (.inr (List.mem_append.mpr (.inl h))))
      · rcases List.mem_cons.mp h with h | h
        · exact .inr (List.mem_cons.mpr (.inl h))
        · exact .inr (List.mem_cons.mpr (.inr (List.mem_append.mpr (.inr h))))
  by_cases z : b ∈ M.S ∨ b ∈ p :: F
  · rw [if_pos z, if_pos (e.mpr z)]
  · rw [if_neg z, if_neg fun y => z (e.mp y)]
theorem ef_call {pre : List D → Prop} {f : List D → List D} {E : XK} {tr : TA} {ds : List D} (h : EvA M tr σ B ds) (p : pre ds) : EvF M (tCall (SpL pre f) [] E tr) σ B (f ds) := fun F H Q W k =>
  h F H _ W fun vs H1 g e => by
    have W1 := W.go g
    refine ⟨M.S ++ F, ds, app_tr W1, by rw [hd_app, List.append_nil]; exact e, p, fun q ws H' hq g' e1 e' => ?_⟩
    rw [hd_app_cons] at e'
    exact k q ws H' (W.back g hq) (g.trans (go_app W1 g')) e1 e'
/-! ### isinstance -/
structure ClsI (K : PySem.W.Frag) (C : Addr) : Prop where
  cl : Cls K C
  ha : PySem.W.findIn K (.ref C) "__class__" = some (some (.builtin "object.__class__"))
  hn : PySem.W.specialIn K (.builtin "object.__class__") "__get__" = some (some (.builtin "getset_descriptor.__get__"))
  ht : PySem.W.takesIn K (.builtin "object.__class__") = some true
  hm : PySem.W.mroIn K C (.type "object") = some true
def tyD : D → Value
  | .non => .type "NoneType"
  | .bl _ => .type "bool"
  | .int _ => .type "int"
  | .str _ => .type "str"
  | .lst _ => .type "list"
  | .tup _ => .type "tuple"
  | .dic _ _ => .type "dict"
  | .ins C _ _ => .ref C
def okC (CI : Addr → Prop) : D → Prop
  | .ins C _ _ => CI C
  | _ => True
theorem tyX_of {H : Hp} {v : V} (hc : okC (ClsI K) d) (h : Dt H d v) : TyX K H v (tyD d) := by
  cases d with
  | non => cases h; exact .base .non
  | bl b => cases h; exact .base (.bl b)
  | int i => cases h; exact .base (.int i)
  | str s => cases h; exact .base (.str s)
  | lst l => obtain ⟨a, vs, rfl, ha, _⟩ := lst_inv h; exact .base (.lst ha)
  | tup l => obtain ⟨a, vs, rfl, ha, _⟩ := tup_inv h; exact .base (.tup ha)
  | dic ks l =>
    obtain ⟨a, es, rfl, ha, _⟩ := dic_inv h
    rcases ha with ha | ⟨o, ha⟩
    · exact .base (.dK ha)
    · exact .fDict ha
  | ins C fs l =>
    obtain ⟨a, dx, es, rfl, ha, _⟩ := ins_inv h
    have c : ClsI K C := hc
    exact .base (.ins ha c.cl c.ha c.hn c.ht c.hm)
theorem ex_new {H : Hp} {p : Addr} {o : HO} (h : H p = none) : Ex H (upd H p o) := fun b u q _ => by rw [upd_ne (ne_of_none q h)]; exact q
/-- isinstance(x, T), T a built-in class -/
theorem rc_isi {n : String} {b : Bool} (hc : okC (ClsI K) d) (hk : PySem.W.kitOne K (tyD d) (.type n) = some b) (h : Ev M te σ B d) :
    Ev M (tCB (rIsi K) (tCons te (tCons (tC (.ty n)) tNil))) σ B (.bl b) := fun F H Q W k => h F H _ W fun x H1 g e =>
  ⟨x, .ty n, tyD d, .type n, b, rfl, .ty n, tyX_of hc (e.mono hd_le), hk, k _ H1 g rfl⟩
theorem rc_isiC {C : Addr} {b : Bool} (hc : okC (ClsI K) d) (hk : PySem.W.kitOne K (tyD d) (.ref C) = some b) (h : Ev M te σ B d) :
    Ev M (tCB (rIsi K) (tCons te (tCons (tC (.ref C)) tNil))) σ B (.bl b) := fun F H Q W k => h F H _ W fun x H1 g e =>
  ⟨x, .ref C, tyD d, .ref C, b, rfl, .own C, tyX_of hc (e.mono hd_le), hk, k _ H1 g rfl⟩
/-- isinstance(x, (S, T)) -/
theorem rc_isi2 {m n : String} {b : Bool} (hc : okC (ClsI K) d) (hk : PySem.W.kitAny K (tyD d) [.type m, .type n] = some b) (h : Ev M te σ B d) :
    Ev M (tCB (rIsiT K) (tCons te (tCons (tTup (tCons (tC (.ty m)) (tCons (tC (.ty n)) tNil))) tNil))) σ B (.bl b) := fun F H Q W k => h F H _ W fun x H1 g e =>
  ⟨by show 2 ≤ sizeLine; decide, fun p hp => ⟨x, p, [.ty m, .ty n], tyD d, [.type m, .type n], b, rfl, upd_same, .cons (.ty m) (.cons (.ty n) .nil), tyX_of hc ((e.mono hd_le).mono (ex_new hp).le), hk, k _ _ (g.trans ((W.go g).new hp _)) rfl⟩⟩
end
end DL

/-! DL4: statements, loops, by data. -/
namespace DL
open PySem PySem.Spec PyProof.Rows L2
/-- a def is under way: begun at H0 with F0 hidden, now at H with F hidden; B is known -/
structure Rn (M : Md) (F0 : List Addr) (H0 : Hp) (F : List Addr) (B H : Hp) : Prop where
  w : Wd M F B H
  e0 : Ex (Hd M F0 H0) B
  s : ∀ b ∈ F0, b ∈ F
  x : ∀ b ∈ F0, H b = H0 b
section
variable {M : Md} {F0 F : List Addr} {H0 H H' B B' : Hp} {p : Addr} {o : HO} {d : D} {v : V}
theorem Rn.begin (W : Wd M F B H) : Rn M F H F (Hd M F H) H := ⟨W.now, Ex.refl _, fun _ h => h, fun _ _ => rfl⟩
theorem Rn.go (R : Rn M F0 H0 F B H) : Go M F0 H0 H := ⟨(R.e0.trans R.w.e).trans (hd_sub R.s), R.x, R.w.i⟩
theorem Rn.dt (R : Rn M F0 H0 F B H) (h : Dt B d v) : Dt (Hd M F0 H) d v := (h.mono R.w.e.le).mono (hd_sub R.s).le
theorem Rn.dtL {ds : List D} {vs : List V} (R : Rn M F0 H0 F B H) (h : DtL B ds vs) : DtL (Hd M F0 H) ds vs := (h.mono R.w.e.le).mono (hd_sub R.s).le
theorem Rn.step (R : Rn M F0 H0 F B H) (g : Go M F H H') : Rn M F0 H0 F (Hd M F H') H' :=
  ⟨(R.w.go g).now, R.e0.trans (R.w.go g).e, R.s, fun b hb => by rw [g.x b (R.s b hb), R.x b hb]⟩
theorem Rn.ext (R : Rn M F0 H0 F B H) (g : Go M F H H') : Ex B (Hd M F H') := (R.w.go g).e
/-- a new thing is ours -/
theorem Rn.own (R : Rn M F0 H0 F B H) (g : Go M F H H') (f : Fr H p) (hp : H' p = some o) (n : notT o = true) :
    Rn M F0 H0 (p :: F) (Hd M (p :: F) H') H' ∧ Ex B (Hd M (p :: F) H') ∧ p ∉ F ∧ p ∉ M.S := by
  obtain ⟨a, b⟩ := R.w.own g f hp n
  have nS := R.w.nS f
  exact ⟨⟨a.now, R.e0.trans b.e, fun b hb => List.mem_cons_of_mem _ (R.s b hb), fun b hb => by rw [g.x b (R.s b hb), R.x b hb]⟩, b.e, nS.2, nS.1⟩
/-- ours is changed -/
theorem Rn.put (R : Rn M F0 H0 F B H) (hp : p ∈ F) (hm : p ∉ M.S) (h0 : p ∉ F0) (n : notT o = true) : Rn M F0 H0 F B (upd H p o) :=
  ⟨R.w.put hp hm n, R.e0, R.s, fun b hb => by rw [upd_ne (fun z => h0 (by rw [← z]; exact hb)), R.x b hb]⟩
/-- .. is ours no longer: from now on known -/
theorem Rn.tell (R : Rn M F0 H0 (p :: F) B H) (h0 : p ∉ F0) : Rn M F0 H0 F (Hd M F H) H ∧ Ex B (Hd M F H) := by
  have e : Ex B (Hd M F H) := R.w.e.trans (hd_sub fun b hb => List.mem_cons_of_mem _ hb)
  exact ⟨⟨⟨Ex.refl _, R.w.i, fun b hb => R.w.f b (List.mem_cons_of_mem _ hb)⟩, R.e0.trans e, fun b hb => (List.mem_cons.mp (R.s b hb)).elim (fun z => absurd (by rw [← z]; exact hb) h0) id, R.x⟩, e⟩
theorem Rn.told {vs : List V} {ds : List D} (R : Rn M F0 H0 (p :: F) B H) (h0 : p ∉ F) (hm : p ∉ M.S) (h : H p = some (.lst vs)) (hd : DtL B ds vs) : Dt (Hd M F H) (.lst ds) (.ref p) :=
  lst_mk (hd_some.mpr ⟨⟨hm, h0⟩, h⟩) ((hd.mono R.w.e.le).mono (hd_sub fun b hb => List.mem_cons_of_mem _ hb).le)
variable {σ : L2.St} {De : Ends} {te ta tb : TE} {tu tw tz : TS} {t : TT} {g : TG} {K : PySem.W.Frag} {ds : List D}
/-- an expression, then what follows -/
theorem r_ev {Q : VK} (R : Rn M F0 H0 F B H) (h : Ev M te σ B d) (k : ∀ v B' H', Ex B B' → Go M F H H' → Rn M F0 H0 F B' H' → Dt B' d v → Q v H') : te σ H Q :=
  h F H Q R.w fun v H' g e => k v _ H' (R.ext g) g (R.step g) e
theorem r_evF {Q : VK} (R : Rn M F0 H0 F B H) (h : EvF M te σ B ds)
    (k : ∀ p vs B' H', Ex B B' → Go M F H H' → Rn M F0 H0 (p :: F) B' H' → p ∉ F → p ∉ M.S → p ∉ F0 → H' p = some (.lst vs) → DtL B' ds vs → Q (.ref p) H') : te σ H Q :=
  h F H Q R.w fun p vs H' f g e hd => by
    obtain ⟨r, x, n1, n2⟩ := R.own g f e rfl
    exact k p vs _ H' x g r n1 n2 (fun z => n1 (R.s p z)) e hd
theorem r_evG {Q : VK} {ks : List L2.Key} (R : Rn M F0 H0 F B H) (h : EvG M te σ B ks ds)
    (k : ∀ p es B' H', Ex B B' → Go M F H H' → Rn M F0 H0 (p :: F) B' H' → p ∉ F → p ∉ M.S → p ∉ F0 → H' p = some (.dK es) → es.map (·.1) = ks → DtL B' ds (es.map (·.2)) → Q (.ref p) H') : te σ H Q :=
  h F H Q R.w fun p es H' f g e hk hd => by
    obtain ⟨r, x, n1, n2⟩ := R.own g f e rfl
    exact k p es _ H' x g r n1 n2 (fun z => n1 (R.s p z)) e hk hd
theorem r_evT {Q : Bool → Hp → Prop} {b : Bool} (R : Rn M F0 H0 F B H) (h : EvT M t σ B b) (k : ∀ B' H', Ex B B' → Go M F H H' → Rn M F0 H0 F B' H' → Q b H') : t σ H Q :=
  h F H Q R.w fun H' g => k _ H' (R.ext g) g (R.step g)
/-! statements -/
theorem r_set {i : Nat} (R : Rn M F0 H0 F B H) (h : Ev M te σ B d) (k : ∀ v B' H', Ex B B' → Go M F H H' → Rn M F0 H0 F B' H' → Dt B' d v → tz De (σ.set i (some v)) H') : tSeq (tAsg te (gName i)) tz De σ H := r_ev R h k
theorem r_setF {i : Nat} (R : Rn M F0 H0 F B H) (h : EvF M te σ B ds)
    (k : ∀ p vs B' H', Ex B B' → Go M F H H' → Rn M F0 H0 (p :: F) B' H' → p ∉ F → p ∉ M.S → p ∉ F0 → H' p = some (.lst vs) → DtL B' ds vs → tz De (σ.set i (some (.ref p))) H') : tSeq (tAsg te (gName i)) tz De σ H := r_evF R h k
theorem r_setG {i : Nat} {ks : List L2.Key} (R : Rn M F0 H0 F B H) (h : EvG M te σ B ks ds)
    (k : ∀ p es B' H', Ex B B' → Go M F H H' → Rn M F0 H0 (p :: F) B' H' → p ∉ F → p ∉ M.S → p ∉ F0 → H' p = some (.dK es) → es.map (·.1) = ks → DtL B' ds (es.map (·.2)) → tz De (σ.set i (some (.ref p))) H') : tSeq (tAsg te (gName i)) tz De σ H := r_evG R h k
theorem r_tg {R' : L2.St → Hp → Prop} (R : Rn M F0 H0 F B H) (h : Ev M te σ B d) (hg : ∀ B', Ex B B' → Tg M g σ B' d R') (k : ∀ σ2 B' H', Ex B B' → Go M F H H' → Rn M F0 H0 F B' H' → R' σ2 B' → tz De σ2 H') : tSeq (tAsg te g) tz De σ H :=
  r_ev (Q := fun v H' => g v σ H' (tz De)) R h fun v B' H' e g' R1 dv => hg B' e F B' H' v _ (Ex.refl _) R1.w dv fun σ2 r => k σ2 B' H' e g' R1 r
theorem r_drop (R : Rn M F0 H0 F B H) (h : Ev M te σ B d) (k : ∀ B' H', Ex B B' → Go M F H H' → Rn M F0 H0 F B' H' → tz De σ H') : tSeq (tDrop te) tz De σ H := r_ev R h fun v B' H' e g R _ => k B' H' e g R
theorem r_if {b : Bool} (R : Rn M F0 H0 F B H) (h : EvT M t σ B b) (h1 : b = true → ∀ B' H', Ex B B' → Go M F H H' → Rn M F0 H0 F B' H' → tu { De with nx := tz De } σ H')
    (h2 : b = false → ∀ B' H', Ex B B' → Go M F H H' → Rn M F0 H0 F B' H' → tw { De with nx := tz De } σ H') : tSeq (tIfS t tu tw) tz De σ H :=
  r_evT R h fun B' H' e g R => by
    cases b with
    | true => exact iteT (h1 rfl B' H' e g R)
    | false => exact iteF (h2 rfl B' H' e g R)
/-- an if at a block's end -/
theorem r_if1 {b : Bool} (R : Rn M F0 H0 F B H) (h : EvT M t σ B b) (h1 : b = true → ∀ B' H', Ex B B' → Go M F H H' → Rn M F0 H0 F B' H' → tu De σ H')
    (h2 : b = false → ∀ B' H', Ex B B' → Go M F H H' → Rn M F0 H0 F B' H' → tw De σ H') : tIfS t tu tw De σ H :=
  r_evT R h fun B' H' e g R => by
    cases b with
    | true => exact iteT (h1 rfl B' H' e g R)
    | false => exact iteF (h2 rfl B' H' e g R)
theorem r_ret (R : Rn M F0 H0 F B H) (h : Ev M te σ B d) (k : ∀ v H', Go M F0 H0 H' → Dt (Hd M F0 H') d v → De.rt v H') : tRet te De σ H :=
  r_ev (Q := De.rt) R h fun v B' H' _ _ R1 dv => k v H' R1.go (R1.dt dv)
theorem r_retF (R : Rn M F0 H0 F B H) (h : EvF M te σ B ds) (k : ∀ p vs H', Fr H0 p → Go M F0 H0 H' → H' p = some (.lst vs) → DtL (Hd M (p :: F0) H') ds vs → De.rt (.ref p) H') : tRet te De σ H :=
  h F H _ R.w fun p vs H' f g e hd => by
    have R1 := R.step g
    refine k p vs H' ?_ R1.go e (hd.mono (hd_sub fun b hb => ?_).le)
    · intro o q n
      have h1 := R.w.nS f
      by_cases h2 : p ∈ F0
      · exact h1.2 (R.s p h2)
      · exact f o (hd_some.mp (R.w.e p o (R.e0 p o (hd_some.mpr ⟨⟨h1.1, h2⟩, q⟩) n) n)).2 n
    · rcases List.mem_cons.mp hb with z | z
      · rw [z]; exact List.mem_cons_self
      · exact List.mem_cons_of_mem _ (R.s b z)
/-- the new list that stands ready is handed back -/
theorem r_retP {i : Nat} {vs : List V} (R : Rn M F0 H0 (p :: F) B H) (hi : σ[i]? = some (some (.ref p))) (h : H p = some (.lst vs)) (hd : DtL B ds vs) (f : Fr H0 p)
    (k : ∀ p vs H', Fr H0 p → Go M F0 H0 H' → H' p = some (.lst vs) → DtL (Hd M (p :: F0) H') ds vs → De.rt (.ref p) H') : tRet (tVar i) De σ H :=
  ⟨_, hi, k p vs H f R.go h ((hd.mono R.w.e.le).mono (hd_sub fun b hb => by
    rcases List.mem_cons.mp hb with z | z
    · rw [z]; exact List.mem_cons_self
    · exact R.s b z).le)⟩
/-- xs.append(e), xs ours -/
theorem r_app {i : Nat} {vs : List V} (R : Rn M F0 H0 F B H) (hp : p ∈ F) (hm : p ∉ M.S) (h0 : p ∉ F0) (hi : σ[i]? = some (some (.ref p))) (hv : H p = some (.lst vs)) (hz : vs.length < sizeLine) (h : Ev M te σ B d)
    (k : ∀ v B' H', Ex B B' → Rn M F0 H0 F B' (upd H' p (.lst (vs ++ [v]))) → (∀ b ∈ F, b ≠ p → H' b = H b) → Dt B' d v → tz De σ (upd H' p (.lst (vs ++ [v])))) : tSeq (tDrop (tBM K "list" rAppend (tVar i) (tCons te tNil))) tz De σ H :=
  ⟨_, hi, .inl ⟨rfl, vs, SqL.of hv⟩, r_ev (Q := fun x H1 => tNil σ H1 fun xs H2 => rAppend (.ref p) (x :: xs) H2 fun _ H3 => tz De σ H3) R h fun v B' H' e g R1 dv =>
    ⟨p, vs, v, rfl, rfl, by rw [g.x p hp]; exact hv, hz, k v B' H' e (R1.put hp hm h0 rfl) (fun b hb _ => g.x b hb) dv⟩⟩
/-- what holds ahead of the i-th turn -/
def Lp (Iv : Nat → L2.St → Hp → Hp → Prop) (Bb : Hp) (i : Nat) : L2.St → Hp → Prop := fun σ H => ∃ B, Ex Bb B ∧ Iv i σ B H
/-- a loop over a walk -/
theorem r_for1 {wi : TI} {ys : List D} (R : Rn M F0 H0 F B H) (hi : EvI M wi σ B ys) (Iv : Nat → L2.St → Hp → Hp → Prop) (hR : ∀ i σ B H, Iv i σ B H → Rn M F0 H0 F B H)
    (h0 : ∀ B' H', Ex B B' → Go M F H H' → Rn M F0 H0 F B' H' → Iv 0 σ B' H')
    (hs : ∀ i d x σ' Bb B1 H1 B2 H2, Ex B Bb → Ex Bb B1 → ys[i]? = some d → Iv i σ' B1 H1 → Ex B1 B2 → Go M F H1 H2 → Rn M F0 H0 F B2 H2 → Dt B2 d x →
      g x σ' H2 fun σ2 H3 => tu { De with nx := Lp Iv Bb (i + 1), ct := Lp Iv Bb (i + 1), bk := De.nx } σ2 H3)
    (hd : ∀ σ' B' H', Ex B B' → Iv ys.length σ' B' H' → De.nx σ' H') : tFor wi g tu De σ H :=
  hi F H _ R.w fun J H1 g1 wk => by
    obtain ⟨G, Y, w, hG, hY⟩ := wk.ex
    have R1 := R.step g1
    have e1 := R.ext g1
    refine for_it w (Lp Iv (Hd M F H1)) ⟨_, Ex.refl _, h0 _ H1 e1 g1 R1⟩ ?_ ?_ ?_
    · rintro i σ' H' _ ⟨B', e, q⟩
      exact hG F H' ((hR _ _ _ _ q).w.up e)
    · rintro i x σ' H2 H3 hlt ⟨B', e, q⟩ y
      have R2 := hR _ _ _ _ q
      obtain ⟨g3, d, hd', dx⟩ := hY F i H2 x H3 hlt (R2.w.up e) y
      exact hs i d x σ' _ B' H2 _ H3 e1 e hd' q (R2.ext g3) g3 (R2.step g3) dx
    · rintro σ' H' ⟨B', e, q⟩
      exact hd σ' B' H' (e1.trans e) q
theorem r_for {wi : TI} {ys : List D} (R : Rn M F0 H0 F B H) (hi : EvI M wi σ B ys) (Iv : Nat → L2.St → Hp → Hp → Prop) (hR : ∀ i σ B H, Iv i σ B H → Rn M F0 H0 F B H)
    (h0 : ∀ B' H', Ex B B' → Go M F H H' → Rn M F0 H0 F B' H' → Iv 0 σ B' H')
    (hs : ∀ i d x σ' Bb B1 H1 B2 H2, Ex B Bb → Ex Bb B1 → ys[i]? = some d → Iv i σ' B1 H1 → Ex B1 B2 → Go M F H1 H2 → Rn M F0 H0 F B2 H2 → Dt B2 d x →
      g x σ' H2 fun σ2 H3 => tu { De with nx := Lp Iv Bb (i + 1), ct := Lp Iv Bb (i + 1), bk := tz De } σ2 H3)
    (hd : ∀ σ' B' H', Ex B B' → Iv ys.length σ' B' H' → tz De σ' H') : tSeq (tFor wi g tu) tz De σ H :=
  r_for1 (De := { De with nx := tz De }) R hi Iv hR h0 hs hd
/-- a while: Iv by a number that falls -/
theorem r_while1 (R : Rn M F0 H0 F B H) (Iv : Nat → L2.St → Hp → Hp → Prop) (m0 : Nat) (h0 : Iv m0 σ B H)
    (hs : ∀ m σ' Bb B1 H1, Ex B Bb → Ex Bb B1 → Iv m σ' B1 H1 → t σ' H1 fun b H2 => if b = true then ∃ N : L2.St → Hp → Prop, (∀ σ3 H3, N σ3 H3 → ∃ m', m' < m ∧ Lp Iv Bb m' σ3 H3) ∧ tu { De with nx := N, ct := N, bk := De.nx } σ' H2 else De.nx σ' H2) : tWhile t tu De σ H := by
  refine ⟨fun m σ' H' => Lp Iv B m σ' H', ⟨m0, B, Ex.refl _, h0⟩, ?_⟩
  rintro m σ' H' ⟨B', e, q⟩
  exact hs m σ' B B' H' (Ex.refl _) e q
end
end DL

/-! DL5: defs that may raise an own error with one field. -/
namespace DL
open PySem PySem.Spec PyProof.Rows L2
inductive Res where
  | ok (d : D)
  | er (C : Addr) (f : Str) (d : D)
def SpR (pre : List D → Prop) (f : List D → Res) : Sp := fun vs H Q E => ∃ F ds, (∀ b ∈ F, ∃ o, H b = some o ∧ notT o = true) ∧ DtL (Hd M0 F H) ds vs ∧ pre ds ∧
  match f ds with
  | .ok r => ∀ v H', Go M0 F H H' → Dt (Hd M0 F H') r v → Q v H'
  | .er C fl r => ∀ dx y H', Go M0 F H H' → H' dx = some (.xd [(fl, y)]) → Dt (Hd M0 F H') r y → E (.ref C) (some dx) H'
section
variable {M : Md} {F0 F : List Addr} {H0 H H' B B' : Hp} {p : Addr} {o : HO} {d : D} {v : V} {σ : L2.St} {De : Ends} {te ta tb : TE} {tr : TA} {K : PySem.W.Frag} {ds : List D} {pre : List D → Prop} {g : List D → Res} {E : XK}
theorem ev_callR (h : EvA M tr σ B ds) (p : pre ds) (e : g ds = .ok d) : Ev M (tCall (SpR pre g) [] E tr) σ B d := fun F H Q W k =>
  h F H _ W fun vs H1 g1 hv => by
    have W1 := W.go g1
    refine ⟨M.S ++ F, ds, app_tr W1, by rw [hd_app, List.append_nil]; exact hv, p, ?_⟩
    rw [e]
    intro v H' g' e'
    rw [hd_app] at e'
    exact k v H' (g1.trans (go_app W1 g')) e'
theorem r_callR {C : Addr} {fl : Str} {Q : VK} (R : Rn M F0 H0 F B H) (h : EvA M tr σ B ds) (p : pre ds) (e : g ds = .er C fl d)
    (k : ∀ dx y H', Go M F0 H0 H' → H' dx = some (.xd [(fl, y)]) → Dt (Hd M F0 H') d y → E (.ref C) (some dx) H') : tCall (SpR pre g) [] E tr σ H Q :=
  h F H _ R.w fun vs H1 g1 hv => by
    have W1 := R.w.go g1
    have R1 := R.step g1
    refine ⟨M.S ++ F, ds, app_tr W1, by rw [hd_app, List.append_nil]; exact hv, p, ?_⟩
    rw [e]
    intro dx y H' g' hx hy
    have g2 := go_app W1 g'
    rw [hd_app] at hy
    exact k dx y H' (R1.step g2).go hx (hy.mono (hd_sub R.s).le)
/-! ### raise X(e), X's __init__ being «self.f = f» -/
def SpI (K : PySem.W.Frag) (C : Addr) (fl : Str) : Sp := fun vs H Q _ => ∃ (a : Addr) (y : V), vs = [.ref a, y] ∧ H a = some (exo a C none) ∧ ∀ dx, H dx = none → dx ≠ a → Q .non (upd (upd H dx (exd dx [(fl, y)])) a (exo a C (some dx)))
theorem spI_len {C : Addr} {fl : Str} : ∀ (vs : List V) (H : Hp) (Q : VK) (E : XK), SpI K C fl vs H Q E → vs.length = 2 := fun vs H Q E ⟨a, y, e, _⟩ => by rw [e]; rfl
/-- what the raise's reading asks -/
theorem mk_read {C : Addr} {fl : Str} {Q : XK} (h : te σ H fun y H1 => ∀ dx, H1 dx = none → Q (.ref C) (some dx) (upd H1 dx (.xd [(fl, y)])))
    : (te σ H fun y H1 => ∀ dx, H1 dx = none → Q (.ref C) (some dx) (upd H1 dx (.xd [(fl, y)]))) := h
theorem upd_comm_del {H : Hp} {a dx : Addr} {o1 o2 o3 : HO} (ha : H a = none) (hd : dx ≠ a) {o : HO} : upd (del (upd (upd (upd H a o1) dx o2) a o3) a) dx o = upd H dx o := by
  funext b
  by_cases z : b = dx
  · subst z; rw [upd_same, upd_same]
  · rw [upd_ne z, upd_ne z]
    by_cases y : b = a
    · subst y; rw [del_same, ha]
    · rw [del_ne y, upd_ne y, upd_ne z, upd_ne y]
/-- one argument -/
theorem r_mk {C : Addr} {fl : Str} {Q : XK} (h : te σ H fun y H1 => ∀ dx, H1 dx = none → Q (.ref C) (some dx) (upd H1 dx (.xd [(fl, y)]))) (mono : ∀ Q1 Q2 : VK, (∀ v H, Q1 v H → Q2 v H) → te σ H Q1 → te σ H Q2) :
    tMkO C (SpI K C fl) [] (tCons te tNil) σ H Q := by
  refine mono _ _ (fun y H1 q => ?_) h
  refine ⟨by show 1 ≤ 1000; decide, fun a ha => ⟨a, y, rfl, upd_same, fun dx hdx ne => ⟨rfl, dx, [(fl, y)], upd_same, ?_, ?_, ?_⟩⟩⟩
  · rw [upd_ne ne, upd_same]
  · rw [upd_ne ne] at hdx; exact hdx
  · rw [upd_comm_del ha ne]
    rw [upd_ne ne] at hdx
    exact q dx hdx
theorem r_raise {C : Addr} {fl : Str} {W : WX} (R : Rn M F0 H0 F B H) (h : Ev M te σ B d) (k : ∀ dx y H', Go M F0 H0 H' → H' dx = some (.xd [(fl, y)]) → Dt (Hd M F0 H') d y → W (.ref C) (some dx) σ H') :
    tMkO C (SpI K C fl) [] (tCons te tNil) σ H fun cls d H' => W cls d σ H' :=
  h F H _ R.w fun y H1 g1 hy => by
    have R1 := R.step g1
    refine ⟨by show 1 ≤ 1000; decide, fun a ha => ⟨a, y, rfl, upd_same, fun dx hdx ne => ⟨rfl, dx, [(fl, y)], upd_same, ?_, ?_, ?_⟩⟩⟩
    · rw [upd_ne ne, upd_same]
    · rw [upd_ne ne] at hdx; exact hdx
    · rw [upd_comm_del ha ne]
      rw [upd_ne ne] at hdx
      have g2 := R1.w.new hdx (.xd [(fl, y)])
      exact k dx y _ (R1.step g2).go upd_same ((hy.mono (R1.ext g2).le).mono (hd_sub R.s).le)
end
section
variable {P : Program} {w : World} {K : PySem.W.Frag} {mg : Str → Option Value} {base : Heap} {f : Addr} {fd : FuncData}
/-- what the text has of an error's class: its __init__ keeps the promise -/
structure ExF (P : Program) (w : World) (K : PySem.W.Frag) (mg : Str → Option Value) (base : Heap) (x : Str) (C : Addr) (fl : Str) : Prop where
  m : mg x = some (.ref C)
  T : OexC K C
  ini : ∃ fI fd ps, PySem.W.findIn K (.ref C) "__init__" = some (some (.ref fI)) ∧ PySem.W.typeIn K (.ref fI) = some (.type "function") ∧ FnOk P w K mg base CX0 1 fI fd ps (SpI K C fl) ∧ Binds K fd ps []
/-- raise X(e) in a def that may let it out -/
theorem ps_rz {X : Cx} {W : WX} {x fl : Str} {C : Addr} {a : Expr} {ta : TA} {k : Nat} {p pos pos2 : Pos} (hc : X.calm = true) (T : ExF X.prog X.w X.K X.mg X.base x C fl) (hr : Room k X.A) (hk : 2 ≤ k) (tk : Takes X W) (ha : PA X [a] ta) (hg : Gl X x := by rfl)
    (hdb : (x == ("__debug__" : Str)) = false := by decide) (he : starEach (a :: []) X.env = (false, eval a X.env) :: starEach [] X.env := by rfl) (hpl : (backTo pos (starEach [] X.env)).any (·.1) = false := by rfl) :
    PS X (.Raise (some (.Call (.Name x p) [a] [] pos)) none pos2) (fun _ σ H => tMkO C (SpI X.K C fl) [] ta σ H fun cls d H' => W cls d σ H') := by
  obtain ⟨fI, fd, ps, iC, tI, F1, b⟩ := T.ini
  exact ps_raise hc tk (pmk_oex T.T iC tI F1 (hr.mono hk) b .nil pass0 hg T.m ha hdb he hpl)
end
end DL

/-! RX1: more rules: len of a dict that may be locked, d.values() as a value, its sum. -/
namespace RX
open PySem PySem.Spec PyProof.Rows L2 DL
section
variable {X : Cx}
theorem call_lenR : CallR X (.builtin "len") (fun xs H Q => ∃ a kvs, xs = [V.ref a] ∧ Rd H a (.dK kvs) ∧ Q (.int kvs.length) H) := by
  intro pins s σ H xs us Q I r h
  obtain ⟨a, kvs, rfl, ha, q⟩ := h
  obtain ⟨u, rfl, ru⟩ := vals1 r
  cases ru
  exact d_len I ha fun t s' I' => ⟨.int kvs.length, H, I', ⟨t, rfl⟩, q⟩
/-- o.name(), o a dict, locked or not -/
def tDM0 (r : V → List V → Hp → VK → Prop) (to : TE) : TE := fun σ H Q => to σ H fun x H1 => (∃ a, x = .ref a ∧ ∃ kvs, Rd H1 a (.dK kvs)) ∧ r x [] H1 Q
theorem pe_dm0 {name : Str} {id : String} {r : V → List V → Hp → VK → Prop} {o : Expr} {to : TE} {apos cpos : Pos} (slot : Slot "dict" name id) (hty : typeOf (.builtin id) = pure (.type "method_descriptor")) (hm : MtR X id r) (ho : PE X o to)
    (hbase : attributeBase o name X.env (eval o X.env) = eval o X.env := by rfl) (hline : (apos.endLine == cpos.line) = true := by rfl) : PE X (.Call (.Attribute o name apos) [] [] cpos) (tDM0 r to) := by
  refine ⟨fun pins s σ H Q I h => ?_⟩
  refine wpAny_Call_method0_late hbase hline (thn (ho.run pins s σ H _ I h) fun v s1 ⟨x, H1, I1, r1, ⟨a, ea, kvs, hr⟩, q1⟩ => ?_)
  subst ea
  obtain rfl : v = Value.ref a := r1
  obtain ⟨h1, h2, _⟩ := isD_at I1 (.inl ⟨kvs, hr⟩)
  exact ⟨"dict", id, PySem.F.plainAttrs_dict, slot, hty, h1, h2, Calls.callWith_builtin rfl (PySem.evalArgs_none (hm pins s1 σ H1 (.ref a) [] (.ref a) [] Q I1 rfl .nil q1))⟩
def rVals : V → List V → Hp → VK → Prop := fun x vs H Q => ∃ a kvs, x = .ref a ∧ vs = [] ∧ Rd H a (.dK kvs) ∧ ∀ p, H p = none → Q (.ref p) (upd H p (viewO "dict_values" p a))
theorem mt_values : MtR X "dict.values" rVals := by
  intro pins s σ H x vs v us Q I rx rv h
  obtain ⟨a, kvs, rfl, rfl, e, q⟩ := h
  obtain rfl : v = Value.ref a := rx
  have hus := rv.zero
  subst hus
  obtain ⟨_, hd, vs, _, dd⟩ := dk_rd I.hok e
  refine call_meetsIn PySem.F.slot_dict_values dd.typeIs PySem.F.entry_dict_values (PySem.F.args_dict_values_1 _) (meets_dict_values (mixKind X.prog X.w) a hd) ⟨⟨vs, dd⟩, ?_⟩
  exact ⟨.ref s.heap.objs.size, _, I.laid (t' := s.toks) (fun b o q => Heap.get?_push_of_some _ q) (Nat.le_refl _) (viewO_ok (Heap.get?_push_size _ rfl)), rfl, q _ (I.hok.fresh (Nat.le_refl _))⟩
theorem kv_at {κ : Type} {kvs : List (κ × V)} {vs : List (κ × Value)} (r : KV kvs vs) : ∀ {i : Nat} {k : κ} {v : Value}, vs[i]? = some (k, v) → ∃ x, kvs[i]? = some (k, x) ∧ RelV x v := by
  unfold KV at r
  induction r with
  | nil => intro i k v e; simp at e
  | @cons p q ps qs h t ih =>
    intro i k v e
    cases i with
    | zero =>
      simp at e
      obtain ⟨p1, p2⟩ := p
      subst e
      obtain ⟨h1, h2⟩ := h
      dsimp only at h1 h2
      subst h1
      exact ⟨p2, rfl, h2⟩
    | succ i => exact ih (by simpa using e)
theorem preSum_list (ns : List Int) (f : Nat → Int) (h : ∀ i, i < ns.length → f i = ns.getD i 0) : preSum f ns.length = ns.sum := by
  induction ns generalizing f with
  | nil => rfl
  | cons n ns ih =>
    rw [List.length_cons, PySem.W.kdu_shift, List.sum_cons, ih (fun i => f (i + 1)) (fun i hi => by have := h (i + 1) (by simpa using hi); simpa using this), h 0 (by simp)]
    rfl
def rSumV : List V → Hp → VK → Prop := fun xs H Q => ∃ (p a : Addr) (kvs : List (L2.Key × V)) (ns : List Int), xs = [.ref p] ∧ H p = some (viewO "dict_values" p a) ∧ Rd H a (.dK kvs) ∧ kvs.map (·.2) = ns.map V.int ∧ Q (.int ns.sum) H
theorem cr_sumV (hc : X.calm = true) : CallR X (.builtin "sum") rSumV := by
  intro pins s σ H xs us Q I rx h
  obtain ⟨p, a, kvs, ns, rfl, hp, hr, hns, q⟩ := h
  rw [Vals.ref1 rx]
  obtain ⟨_, hd, vs, rel, dd⟩ := dk_rd I.hok hr
  obtain ⟨ep, hat⟩ := dd.dictAt
  have hv : s.heap.get? p = some (DSub.viewOb "dict_values" a) := (show ObjOk X.prog X.w H s.heap p (viewO "dict_values" p a) from I.hok p _ hp).1
  have hlen : vs.length = ns.length := by
    rw [← rel.length]
    have e := congrArg List.length hns
    rwa [List.length_map, List.length_map] at e
  refine call_sum_walkAnyS ?_
  have K := PySem.W.kdl_values (prog := X.prog) (w := X.w) (knd := mixKind X.prog X.w) (r := p) (d := a) (kvs := vs) (ep := ep)
  have hok : s.heap.IsValuesView p a ∧ s.heap.DictAt (mixKind X.prog X.w) a vs ep := ⟨⟨_, hv, rfl, rfl⟩, hat⟩
  obtain ⟨oI, St, hit, W, st⟩ := K.iter X.A.in1 s (I.ok.hd hc) hok
  refine hit _ _ ⟨s.heap.objs.size, _, _, _, _, _, _, fun i => ns.getD i 0, rfl, W.toS, st, fun b hb => ?_, fun i v hP => ?_, fun s' t' hm => ?_⟩
  · show b < (s.heap.push oI).objs.size
    rw [size_push']
    rcases List.mem_cons.mp hb with e | hb
    · rw [e]; exact Nat.lt_succ_self _
    · rw [List.mem_singleton.mp hb]; exact Nat.lt_succ_of_lt (K.there _ hok).2
  · obtain ⟨k, hk⟩ := hP
    obtain ⟨x, hx, r⟩ := kv_at rel hk
    have e : (kvs.map (·.2))[i]? = some x := by rw [List.getElem?_map, hx]; rfl
    rw [hns, List.getElem?_map] at e
    obtain ⟨n, hn, e2⟩ := Option.map_eq_some_iff.mp e
    subst e2
    obtain ⟨t, e3⟩ := (show ∃ t, v = Value.int n t from r)
    exact ⟨t, by rw [e3]; dsimp only; rw [List.getD_eq_getElem?_getD, hn]; rfl⟩
  · have hk : ∀ b o, s.heap.get? b = some o → s'.heap.get? b = some o := fun b o e =>
      hm.heap b o (fun hI => absurd (Heap.lt_size e) (by rw [List.mem_singleton.mp hI]; exact Nat.lt_irrefl _)) (Heap.get?_push_of_some _ e)
    rw [Moved.eq_with hm, hlen, preSum_list ns _ fun _ _ => rfl]
    exact ⟨.int ns.sum, H, I.kept (t' := s'.toks) hk, ⟨t', rfl⟩, q⟩
end

section
variable {M : Md} {σ : L2.St} {B : Hp} {te : TE} {K : PySem.W.Frag}
theorem ev_sumV {ks : List L2.Key} {ns : List Int} (h : Ev M te σ B (.dic ks (ns.map D.int))) : Ev M (tCB rSumV (tCons (tDM0 rVals te) tNil)) σ B (.int ns.sum) := fun F H Q W k => h F H _ W fun v H1 g e => by
  obtain ⟨a, es, rfl, hr, hk, hl⟩ := dic_inv e
  have W1 := W.go g
  refine ⟨⟨a, rfl, es, hdR hr⟩, a, es, rfl, rfl, hdR hr, fun p hp => ⟨p, a, es, ns, rfl, upd_same, ?_, hl.ints, k _ _ (g.trans (W1.new hp _)) rfl⟩⟩
  exact (ex_new hp).rd rfl (hdR hr)
theorem rc_lenD {ks : List L2.Key} {ds : List D} : RC M (fun xs H Q => ∃ a kvs, xs = [V.ref a] ∧ Rd H a (.dK kvs) ∧ Q (.int (kvs.length : Nat)) H) [.dic ks ds] (.int (ds.length : Nat)) := fun F B H vs Q W e k => by
  obtain ⟨v, rfl, e1⟩ := one_inv e
  obtain ⟨a, es, rfl, hr, hk, hl⟩ := dic_inv e1
  refine ⟨a, es, rfl, hdR hr, ?_⟩
  have el : es.length = ds.length := by rw [← hl.length, List.length_map]
  rw [el]
  exact k _ H (Go.refl W.i) rfl
end
end RX

/-! RX2: a list or tuple walked, whichever it is; enumerate(tuple). -/
namespace PySem
section
variable {prog : Program} {w : World} {A : Around} {E : Value → Shared → Prop} {s : Shared}
theorem rx_nextOf_tuple_item {it l : Addr} {i : Nat} {items} {x : Value} {Q : Value → Shared → Prop} (hit : s.heap.IsTupleIter it l i) (hl : s.heap.IsTuple l items) (hx : items[i]? = some x)
    (hQ : ∀ h', h'.IsTupleIter it l (i + 1) → Heap.SameBut it s.heap h' → Q x { s with heap := h' }) : wpAny (model prog w) A (Builtin.SmallTypes.nextOf (.ref it)) Q E s := by
  obtain ⟨o, ho, hc, hd⟩ := id hit
  obtain ⟨ol, hol, _, nl, hdl⟩ := hl
  unfold Builtin.SmallTypes.nextOf
  refine wpAny_bind (wpAny_callSpecial?_slot (name := Str.ofString "__next__") hit.typeIs F.slot_tuple_iterator_next
    (wpAny_call_entry F.slot_tuple_iterator_next hit.typeIs F.entry_tuple_iterator_next ?_ (F.args_tuple_iterator_next_1 _)))
  show wpAny _ _ (field (.ref it) 0 >>= _) _ _ s
  refine wpAny_bind (wpAny_field ho hd (x := .ref l) rfl ?_)
  show wpAny _ _ (if (Value.ref l == Value.none) = true then _ else _) _ _ s
  rw [if_neg (show ¬ ((Value.ref l == Value.none) = true) from Bool.false_ne_true)]
  show wpAny _ _ (field (.ref it) 1 >>= _) _ _ s
  refine wpAny_bind (wpAny_field ho hd (x := .int i 0) rfl ?_)
  show wpAny _ _ (seqItems? (.ref l) >>= _) _ _ s
  refine wpAny_bind (wpAny_seqItems hol hdl ?_)
  simp only [Int.toNat_natCast, hx]
  refine wpAny_bind (wpAny_setField ho hd (by simp) (wpAny_pure ⟨x, rfl, wpAny_pure (hQ _ ?_ (Heap.SameBut.update ..))⟩))
  exact ⟨_, Heap.get?_update_self _ ho (Obj.isFreed_of_fields (Obj.data_mapFields hd _)), (Obj.cls_mapFields ..).trans hc, by
    rw [Obj.data_mapFields hd]; simp [rawInt]⟩
theorem rx_nextOf_tuple_end {it l : Addr} {i : Nat} {items} {Q : Value → Shared → Prop} (hh : A.handled = none) (hit : s.heap.IsTupleIter it l i) (hl : s.heap.IsTuple l items) (hx : items[i]? = none)
    (hE : ∀ h' e, Heap.ExtBut it s.heap h' → (∃ o, h'.get? e = some o ∧ o.cls = .type "StopIteration") → E (.ref e) { s with heap := h' }) :
    wpAny (model prog w) A (Builtin.SmallTypes.nextOf (.ref it)) Q E s := by
  obtain ⟨o, ho, hc, hd⟩ := id hit
  obtain ⟨ol, hol, _, nl, hdl⟩ := hl
  unfold Builtin.SmallTypes.nextOf
  refine wpAny_bind (wpAny_callSpecial?_slot (name := Str.ofString "__next__") hit.typeIs F.slot_tuple_iterator_next
    (wpAny_call_entry F.slot_tuple_iterator_next hit.typeIs F.entry_tuple_iterator_next ?_ (F.args_tuple_iterator_next_1 _)))
  show wpAny _ _ (field (.ref it) 0 >>= _) _ _ s
  refine wpAny_bind (wpAny_field ho hd (x := .ref l) rfl ?_)
  show wpAny _ _ (if (Value.ref l == Value.none) = true then _ else _) _ _ s
  rw [if_neg (show ¬ ((Value.ref l == Value.none) = true) from Bool.false_ne_true)]
  show wpAny _ _ (field (.ref it) 1 >>= _) _ _ s
  refine wpAny_bind (wpAny_field ho hd (x := .int i 0) rfl ?_)
  show wpAny _ _ (seqItems? (.ref l) >>= _) _ _ s
  refine wpAny_bind (wpAny_seqItems hol hdl ?_)
  simp only [Int.toNat_natCast, hx]
  refine wpAny_bind (wpAny_rule (wpAny_bind (wpAny_setField ho hd (by simp) ?_)))
  show wpAny _ _ (newExc (.type "StopIteration") [] >>= _) _ _ _
  refine wpAny_bind ?_
  simp only [newExc, newTuple]
  refine wpAny_bind (wpAny_newObj_type ?_ (by size_fits))
  refine wpAny_bind (m := firstArgMember _ _) (wpAny_of_eq (a := Value.none) (by first | rfl | (simp only [firstArgMember]; rfl)) ?_)
  refine wpAny_newObj_type ?_ (by size_fits)
  simp only [raiseNew]
  refine wpAny_bind (wpAny_handled ?_)
  first | rw [show A.in1.handled = none from hh] | rw [hh]
  refine wpAny_bind (wpAny_pure (wpAny_throw ?_))
  exact hE _ _ (((Heap.SameBut.update ..).extBut.push _).push _) ⟨_, Heap.get?_push_size _ rfl, rfl⟩
end
theorem rx_draws_tuple {prog : Program} {w : World} {A : Around} (hh : A.handled = none) (it l : Addr) (hne : l ≠ it) (items : Array Value) :
    Draws prog w A it [it, l] items.size (fun i v => items[i]? = some v) (fun i h => h.IsTupleIter it l i ∧ h.IsTuple l items) where
  live := fun _ _ st => let ⟨o, ho, _⟩ := st.1; ⟨o, ho⟩
  frame := fun _ _ _ st hk => ⟨st.1.at fun o e => hk it (by simp) o e, let ⟨o, e, c⟩ := st.2; ⟨o, hk l (by simp) o e, c⟩⟩
  item := fun i s Q E hi st hQ => by
    refine rx_nextOf_tuple_item st.1 st.2 (x := items[i]) (by simp [hi]) fun h' hit' hs' => ?_
    exact hQ _ h' s.toks (by simp [hi]) ⟨hit', let ⟨o, e, c⟩ := st.2; ⟨o, (hs'.2 l hne).trans e, c⟩⟩ hs'
  done := fun s Q E st hE => rx_nextOf_tuple_end hh st.1 st.2 (by simp) hE
theorem rx_meets_enumerate_newT (l : Addr) (items : Array Value) (n : Nat) (dct : Option Addr) (sl : Array (Option Value)) :
    Meets (Builtin.«enumerate.__new__» ⟨[.type "enumerate", .ref l], []⟩) (fun _ R s => s.heap.get? l = some { cls := .type "tuple", dict := dct, data := .seq items n, slots := sl } ∧
      R (.ok (.ret (.ref (s.heap.push { cls := .type "tuple_iterator", data := .fields #[.ref l, .int 0 0] }).objs.size)))
        { s with heap := (s.heap.push { cls := .type "tuple_iterator", data := .fields #[.ref l, .int 0 0] }).push { cls := .type "enumerate", data := .fields #[.none, .bool false, .ref s.heap.objs.size, rawInt 0, .none, .none] } }) :=
  .of_wp fun prog w A R s h => by
    obtain ⟨hp, g, d, tk, os⟩ := s; obtain ⟨hl, h⟩ := h
    have hsub := sub_enumerate
    have hL : Heap.IsTuple (Shared.heap ⟨hp, g, d, tk, os⟩) l items := ⟨_, hl, rfl, n, rfl⟩
    wp_walk using wpAny_loadPart' hl
    refine wpAny_stack_any fun st => wpAny_pure ?_
    split
    · rename_i c _ _ _ _ _
      cases (c == Value.type "enumerate")
      · wp_walk using wpAny_loadPart' hl, wpAny_pyIter_tuple hL
        exact ⟨_, rfl, h⟩
      · wp_walk using wpAny_loadPart' hl, wpAny_pyIter_tuple hL
        exact ⟨_, rfl, h⟩
    · wp_walk using wpAny_loadPart' hl, wpAny_pyIter_tuple hL
      exact ⟨_, rfl, h⟩
section
variable {prog : Program} {w : World} {A : Around} {E : Value → Shared → Prop} {s : Shared}
theorem rx_call_enumerate_tuple {l : Addr} {items : Array Value} {Q : Value → Shared → Prop} (hL : s.heap.IsTuple l items)
    (h : ∀ h', IsEnum h' (s.heap.objs.size + 1) s.heap.objs.size 0 .none → h'.IsTupleIter s.heap.objs.size l 0 → h'.objs.size = s.heap.objs.size + 2 →
      (∀ b o, s.heap.get? b = some o → h'.get? b = some o) → Q (.ref (s.heap.objs.size + 1)) { s with heap := h' }) :
    wpAny (model prog w) A (call (.type "enumerate") [.ref l]) Q E s := by
  obtain ⟨⟨c, dct, dt, sl⟩, hl, hc, n, hd⟩ := hL
  replace hc : c = .type "tuple" := hc
  replace hd : dt = .seq items n := hd
  subst hc hd
  refine callType_new F.called_enumerate (by decide) (F.typeCall_enumerate_1 _) (F.newCall_enumerate_1 _) (fun obj => F.args_object_init_2 obj _) F.entry_enumerate_new
    (rx_meets_enumerate_newT l items n dct sl) ⟨hl, ?_⟩
  have hz : (s.heap.push { cls := .type "tuple_iterator", data := .fields #[.ref l, .int 0 0] }).objs.size = s.heap.objs.size + 1 := Heap.size_push ..
  show _ ∧ _
  rw [hz]
  have he : IsEnum ((s.heap.push { cls := .type "tuple_iterator", data := .fields #[.ref l, .int 0 0] }).push
      { cls := .type "enumerate", data := .fields #[.none, .bool false, .ref s.heap.objs.size, rawInt 0, .none, .none] }) (s.heap.objs.size + 1) s.heap.objs.size 0 .none := by
    have := Heap.get?_push_size (s.heap.push { cls := .type "tuple_iterator", data := .fields #[.ref l, .int 0 0] })
      (o := { cls := .type "enumerate", data := .fields #[.none, .bool false, .ref s.heap.objs.size, rawInt 0, .none, .none] }) rfl
    rw [hz] at this; exact this
  refine ⟨⟨_, he, rfl⟩, h _ he ⟨_, Heap.get?_push_of_some _ (Heap.get?_push_size _ rfl), rfl, rfl⟩ (by rw [Heap.size_push, hz]) fun b o x => Heap.get?_push_of_some _ (Heap.get?_push_of_some _ x)⟩
end
end PySem
namespace RX
open PySem PySem.Spec PyProof.Rows L2 DL
/-- enumerate(tuple) -/
def IteT (K : PySem.W.Frag) (a : Addr) : It :=
  ⟨fun i H => ∃ (xs : List V) (x : V), SqT K H a xs ∧ xs[i]? = some x, fun i H v H' => ∃ T x, v = .ref T ∧ H T = none ∧ H' = upd H T (.tup [.int (i : Nat), x]) ∧ ∀ xs, SqT K H a xs → xs[i]? = some x, fun i H => ∃ xs : List V, SqT K H a xs ∧ xs.length = i⟩
theorem turn_enumT {P : Program} {w : World} {K : PySem.W.Frag} {elts : List Expr} {kk : Nat} {tpos : Pos} (a e it : Addr) :
    Turn P w K (.Tuple elts kk tpos) (IteT K a) [e, it] e (fun i h => (∃ old, IsEnum h e it ((i : Nat) : Int) old) ∧ h.IsTupleIter it a i ∧ e ≠ it) where
  mem := by simp
  obj := fun i h st b hb => by
    obtain ⟨⟨old, he⟩, ⟨o, ho, hc, hd⟩, _⟩ := st
    have e' : b = e ∨ b = it := by simpa using hb
    rcases e' with z | z
    · rw [z]; exact ⟨_, he, fun v q => nomatch q⟩
    · rw [z]; exact ⟨o, ho, fun v q => by rw [hd] at q; cases q⟩
  keep := fun i h h' st k => let ⟨⟨old, he⟩, hi, hne⟩ := st; ⟨⟨old, k e (by simp) _ he⟩, hi.at fun o q => k it (by simp) o q, hne⟩
  item := by
    intro X hP hw hK hc i pins s σ H E I hf st hg
    subst hP hw hK
    obtain ⟨⟨old, he⟩, hit, hne⟩ := st
    obtain ⟨xs, x, hq, hx⟩ := hg
    obtain ⟨its, rv, p, hz⟩ := I.tuple hq
    obtain ⟨u, hu, ru⟩ := rv.get hx
    have hel : e < s.heap.objs.size := Heap.lt_size he
    have hil : it < s.heap.objs.size := by obtain ⟨_, q, _⟩ := hit; exact Heap.lt_size q
    have hpT : s.heap.IsTuple a its.toArray := p
    have hai : a ≠ it := fun z => by
      obtain ⟨o, q, c, _⟩ := hit
      obtain ⟨o', q', c', _⟩ := hpT
      rw [z, q] at q'; cases q'; rw [c] at c'; exact absurd c' (by decide)
    have hae : e ≠ a := fun z => by
      obtain ⟨o', q', c', _⟩ := hpT
      rw [← z, he] at q'; cases q'; exact absurd (show Value.type "enumerate" = Value.type "tuple" from c') (by decide)
    have D := rx_draws_tuple (prog := X.prog) (w := X.w) (A := X.A.in1) (show X.A.in1.handled = none from I.ok.hd hc) it a hai its.toArray
    have hlt : i < its.toArray.size := by
      have := (List.getElem?_eq_some_iff.mp hu).1
      simpa using this
    refine wpAny_pyNext_enum_itemD D he ⟨hit, hpT⟩ hlt hne (fun z => by
      rcases List.mem_cons.mp z with z | z
      · exact hne z
      · exact hae (List.mem_singleton.mp z)) fun y h' tk hy ho hst hT hsz hk => ?_
    have hyu : y = u := by
      have h1 : its.toArray[i]? = some u := by simpa using hu
      have h2 : its.toArray[i]? = some y := hy
      rw [h1] at h2; exact (Option.some.inj h2).symm
    subst hyu
    refine ⟨_, rfl, wpAny_letOwnedTupleGo_enum (s := { s with heap := h', toks := tk + 1 }) ho fun h'' he' sb => ?_⟩
    have hT2 : h''.get? s.heap.objs.size = some { cls := .type "tuple", data := .seq #[.int i tk, y] } := (sb.2 _ (Nat.ne_of_gt hel)).trans hT
    have new : ObjOk X.prog X.w (upd H s.heap.objs.size (.tup [.int (i : Nat), x])) h'' s.heap.objs.size (.tup [.int (i : Nat), x]) :=
      ⟨by show 2 ≤ sizeLine; decide, [.int i tk, y], .cons ⟨_, rfl⟩ (.cons ru .nil), ⟨_, hT2, rfl, _, rfl⟩⟩
    have I1 : Inv X pins σ (upd H s.heap.objs.size (.tup [.int (i : Nat), x])) { s with heap := h'', toks := tk + 1 } :=
      I.turnedNew (ch := [e, it]) (fun b ob hb q => (sb.2 b (fun z => hb (by simp [z]))).trans (hk b ob (fun z => hb (by simp [z])) (fun z => hb (by simp [z])) q)) hf (Nat.le_refl _) new
    refine ⟨.ref s.heap.objs.size, _, I1, rfl, ⟨_, x, rfl, I.hok.fresh (Nat.le_refl _), rfl, fun ys hy => by rw [I.tuple_inj hy hq]; exact hx⟩, ⟨⟨y, ?_⟩, hst.1.at fun o q => (sb.2 it (Ne.symm hne)).trans q, hne⟩, fun b hb => ?_⟩
    · have e1 : ((i + 1 : Nat) : Int) = (i : Int) + 1 := by omega
      rw [e1]; exact he'
    · have hb' : b < s.heap.objs.size := by
        have e' : b = e ∨ b = it := by simpa using hb
        rcases e' with z | z
        · rw [z]; exact hel
        · rw [z]; exact hil
      rw [upd_ne (Nat.ne_of_lt hb')]
      exact (hf b hb).1
  done := by
    intro X hP hw hK hc i pins s σ H E I hf st hg
    subst hP hw hK
    obtain ⟨⟨old, he⟩, hit, hne⟩ := st
    obtain ⟨xs, hq, hx⟩ := hg
    obtain ⟨its, rv, p, hz⟩ := I.tuple hq
    obtain ⟨f0, f1, f2, f3, f4, f5⟩ := hf it (by simp)
    have hl := rv.length
    have hpT : s.heap.IsTuple a its.toArray := p
    have hai : a ≠ it := fun z => by
      obtain ⟨o, q, c, _⟩ := hit
      obtain ⟨o', q', c', _⟩ := hpT
      rw [z, q] at q'; cases q'; rw [c] at c'; exact absurd c' (by decide)
    have D := rx_draws_tuple (prog := X.prog) (w := X.w) (A := X.A.in1) (show X.A.in1.handled = none from I.ok.hd hc) it a hai its.toArray
    have ei : i = its.toArray.size := by simp; omega
    refine wpAny_pyNext_enum_endD D he (by rw [← ei]; exact ⟨hit, hpT⟩) fun h' eb => ⟨rfl, I.turned (t' := s.toks) (fun b o hb q => eb b o hb q) f0 f1 f3 f4 f5⟩
  self := fun A i s Q E st h => let ⟨⟨_, he⟩, _⟩ := st; wpAny_pyIter_enum he h
/-- enumerate(xs), xs a list or a tuple -/
def iEnumS (K : PySem.W.Frag) (ta : TA) : TI := fun σ H R => ta σ H fun vs H1 => ∃ a xs, vs = [.ref a] ∧ ((SqL K H1 a xs ∧ R (Ite K a) H1) ∨ (SqT K H1 a xs ∧ R (IteT K a) H1))
theorem pi_enumS {X : Cx} {e : Expr} {ta : TA} {p pos tpos : Pos} {elts : List Expr} {kk : Nat} (hg : Gl X "enumerate") (hm : X.mg "enumerate" = none) (ha : PA X [e] ta) (hs : starEach [e] X.env = [(false, eval e X.env)] := by rfl) :
    PI X (.Tuple elts kk tpos) (.Call (.Name "enumerate" p) [e] [] pos) (iEnumS X.K ta) := by
  refine ⟨fun pins s σ H R I h => ?_⟩
  refine Call_ (ld_blt I hg hm boot_enumerate (PyProof.Rows.callWith_type1 (thn (ha.run pos pins s σ H _ I h) fun us s1 ⟨vs, H1, I1, r1, q1⟩ => ?_) hs rfl))
  obtain ⟨a, xs, ex, hq⟩ := q1
  subst ex
  cases r1 with
  | cons r rr =>
    cases rr
    cases r
    rcases hq with ⟨hq, q⟩ | ⟨hq, q⟩
    · obtain ⟨its, rv, p', hz⟩ := I1.list hq
      refine call_enumerate_list p'.isList fun h' he hit hsz hk => wpAny_pyIter_enum he ?_
      have I2 : Inv X pins σ H1 { s1 with heap := h' } := I1.kept (t' := s1.toks) hk
      refine ⟨s1.heap.objs.size + 1, [s1.heap.objs.size + 1, s1.heap.objs.size], _, _, H1, rfl, I2, turn_enum a (s1.heap.objs.size + 1) s1.heap.objs.size, ⟨⟨.none, he⟩, hit, Nat.succ_ne_self _⟩, fun b hb => ?_, q⟩
      have e' : b = s1.heap.objs.size + 1 ∨ b = s1.heap.objs.size := by simpa using hb
      have hle : s1.heap.objs.size ≤ b := by
        rcases e' with z | z
        · rw [z]; exact Nat.le_add_right _ _
        · rw [z]; exact Nat.le_refl _
      exact I1.fpOk hle (I1.hok.fresh hle)
    · obtain ⟨its, rv, p', hz⟩ := I1.tuple hq
      refine rx_call_enumerate_tuple (show s1.heap.IsTuple a its.toArray from p') fun h' he hit hsz hk => wpAny_pyIter_enum he ?_
      have I2 : Inv X pins σ H1 { s1 with heap := h' } := I1.kept (t' := s1.toks) hk
      refine ⟨s1.heap.objs.size + 1, [s1.heap.objs.size + 1, s1.heap.objs.size], _, _, H1, rfl, I2, turn_enumT a (s1.heap.objs.size + 1) s1.heap.objs.size, ⟨⟨.none, he⟩, hit, Nat.succ_ne_self _⟩, fun b hb => ?_, q⟩
      have e' : b = s1.heap.objs.size + 1 ∨ b = s1.heap.objs.size := by simpa using hb
      have hle : s1.heap.objs.size ≤ b := by
        rcases e' with z | z
        · rw [z]; exact Nat.le_add_right _ _
        · rw [z]; exact Nat.le_refl _
      exact I1.fpOk hle (I1.hok.fresh hle)
/-- xs, a list or a tuple -/
def iSeq (K : PySem.W.Frag) (tl : TE) : TI := fun σ H R => tl σ H fun x H1 => ∃ a xs, x = .ref a ∧ ((SqL K H1 a xs ∧ R (Itl K a) H1) ∨ (SqT K H1 a xs ∧ R (Itt K a) H1))
theorem pi_seq {X : Cx} {tg l : Expr} {tl : TE} (hl : PE X l tl) : PI X tg l (iSeq X.K tl) := by
  refine ⟨fun pins s σ H R I h => ?_⟩
  refine thn (hl.run pins s σ H _ I h) fun v s1 ⟨x, H1, I1, r1, q1⟩ => ?_
  obtain ⟨a, xs, e, hq⟩ := q1
  subst e
  cases r1
  rcases hq with ⟨hq, q⟩ | ⟨hq, q⟩
  · obtain ⟨its, rv, p, hz⟩ := I1.list hq
    refine wpAny_pyIter_list p.isList ?_
    refine ⟨s1.heap.objs.size, [s1.heap.objs.size], _, _, H1, rfl, I1.kept (t' := s1.toks) fun b o e => Heap.get?_push_of_some _ e, turn_list a _, ⟨_, Heap.get?_push_size _ rfl, rfl, rfl⟩, fun b hb => ?_, q⟩
    have e : b = s1.heap.objs.size := by simpa using hb
    subst e
    exact I1.fpOk (Nat.le_refl _) (I1.hok.fresh (Nat.le_refl _))
  · obtain ⟨its, rv, p, hz⟩ := I1.tuple hq
    refine wpAny_pyIter_tuple (show s1.heap.IsTuple a its.toArray from p) ?_
    refine ⟨s1.heap.objs.size, [s1.heap.objs.size], _, _, H1, rfl, I1.kept (t' := s1.toks) fun b o e => Heap.get?_push_of_some _ e, turn_tuple a _, ⟨_, Heap.get?_push_size _ rfl, rfl, rfl⟩, fun b hb => ?_, q⟩
    have e : b = s1.heap.objs.size := by simpa using hb
    subst e
    exact I1.fpOk (Nat.le_refl _) (I1.hok.fresh (Nat.le_refl _))
section
variable {M : Md} {σ : L2.St} {B : Hp} {te tl : TE} {K : PySem.W.Frag} {d : D} {l : List D}
theorem ei_seq (hs : sq d = some l) (h : Ev M tl σ B d) : EvI M (iSeq K tl) σ B l := fun F H R W k => h F H _ W fun v H1 g e => by
  obtain ⟨a, vs, rfl, ha, hl⟩ := sq_get hs e
  rcases ha with ha | ha
  · refine ⟨a, vs, rfl, .inl ⟨SqL.of (hdL ha), k _ H1 g ⟨_, _, by rw [← hl.length]; exact walk_list (xs := vs), fun F' H' W' => SqL.of (hdL (W'.e a _ ha rfl)), fun F' i H' x H2 hi W' y => ?_⟩⟩⟩
    obtain ⟨rfl, y⟩ := y
    obtain ⟨d, h1, h2⟩ := hl.get y
    exact ⟨Go.refl W'.i, d, h1, h2.mono W'.e.le⟩
  · refine ⟨a, vs, rfl, .inr ⟨SqT.of (hdT ha), k _ H1 g ⟨_, _, by rw [← hl.length]; exact walk_tup (xs := vs), fun F' H' W' => SqT.of (hdT (W'.e a _ ha rfl)), fun F' i H' x H2 hi W' y => ?_⟩⟩⟩
    obtain ⟨rfl, y⟩ := y
    obtain ⟨d, h1, h2⟩ := hl.get y
    exact ⟨Go.refl W'.i, d, h1, h2.mono W'.e.le⟩
theorem walk_enumT {a : Addr} {xs : List V} : Walk (IteT K a) xs.length (fun H => SqT K H a xs) (YPair (fun i => some (.int (i : Nat))) (fun i => xs[i]?)) := by
  refine ⟨fun i _ hi q => ⟨xs, xs[i], q, by simp [hi]⟩, fun _ q => ⟨xs, q, rfl⟩, fun i H v H' _ q y => ?_⟩
  obtain ⟨T, x, h1, h2, h3, h4⟩ := y
  exact ⟨T, .int (i : Nat), x, h1, h2, h3, rfl, h4 xs q⟩
theorem ei_enumS {tr : TA} (hs : sq d = some l) (h : EvA M tr σ B [d]) : EvI M (iEnumS K tr) σ B (enumD l) := fun F H R W k => h F H _ W fun vs H1 g e => by
  obtain ⟨v, rfl, e0⟩ := one_inv e
  obtain ⟨a, vs, rfl, ha, hl⟩ := sq_get hs e0
  rcases ha with ha | ha
  · refine ⟨a, vs, rfl, .inl ⟨SqL.of (hdL ha), k _ H1 g ⟨_, _, by rw [enumD_length, ← hl.length]; exact walk_enum (xs := vs), fun F' H' W' => SqL.of (hdL (W'.e a _ ha rfl)), fun F' i H' x H2 hi W' y => ?_⟩⟩⟩
    obtain ⟨T, x1, y1, rfl, hT, rfl, e1, e2⟩ := y
    cases e1
    obtain ⟨d, h1, h2⟩ := hl.get e2
    obtain ⟨g2, q⟩ := pair_go W' hT (dx := .int (i : Nat)) (x := .int (i : Nat)) rfl (h2.mono W'.e.le)
    rw [enumD_length] at hi
    exact ⟨g2, .tup [.int (i : Nat), d], by simp [enumD, hi, (List.getElem?_eq_some_iff.mp h1).2], q⟩
  · refine ⟨a, vs, rfl, .inr ⟨SqT.of (hdT ha), k _ H1 g ⟨_, _, by rw [enumD_length, ← hl.length]; exact walk_enumT (xs := vs), fun F' H' W' => SqT.of (hdT (W'.e a _ ha rfl)), fun F' i H' x H2 hi W' y => ?_⟩⟩⟩
    obtain ⟨T, x1, y1, rfl, hT, rfl, e1, e2⟩ := y
    cases e1
    obtain ⟨d, h1, h2⟩ := hl.get e2
    obtain ⟨g2, q⟩ := pair_go W' hT (dx := .int (i : Nat)) (x := .int (i : Nat)) rfl (h2.mono W'.e.le)
    rw [enumD_length] at hi
    exact ⟨g2, .tup [.int (i : Nat), d], by simp [enumD, hi, (List.getElem?_eq_some_iff.mp h1).2], q⟩
end
end RX

/-! RX3: sorted of alike data out of a list or a tuple; min and max of such. -/
namespace PySem.W
open PySem PySem.Calls PyProof.Rows PyProof.V PySem.Spec
section
variable {prog : Program} {w : World} {A : Around} {E : Value → Shared → Prop} {s : Shared} {κ : PyProof.Rows.KeyKind}
theorem rx_collect_tuple {l : Addr} {vs : List Value} {Q : List Value → Shared → Prop} (hl : s.heap.IsTuple l vs.toArray)
    (h : Q vs { s with heap := (s.heap.push (seqObj "list" #[] 0)).update s.heap.objs.size (Obj.mapSeq (· ++ vs.toArray)) }) (hsz : vs.length ≤ sizeLine) :
    wpAny (model prog w) A (collect (.ref l)) Q E s := by
  obtain ⟨o, ho, hc, n, hd⟩ := id hl
  unfold collect
  refine wpAny_bind (wpAny_runValue (codeAny_builtin entry_proto_collect' ?_))
  show wpAny _ _ (do again (.builtin "list.__iadd__" ⟨[← newList [], .ref l], []⟩)) _ _ s
  refine wpAny_bind (wpAny_newList (wpAny_pure ⟨Code.quiet_builtin _ (by decide +kernel), codeAny_builtin entry_list_iadd' ?_⟩))
  show wpAny _ _ (Builtin.List.listExtendWith (.ref s.heap.objs.size) (.ref l) (.ref s.heap.objs.size)) _ _ { s with heap := s.heap.push (seqObj "list" #[] 0) }
  unfold Builtin.List.listExtendWith
  have ho' : (s.heap.push (seqObj "list" #[] 0)).get? l = some o := Heap.get?_push_of_some _ ho
  refine wpAny_bind (wpAny_typeOf (T := "tuple") ⟨o, ho', hc⟩ ?_)
  have ht : (Value.type "tuple" == Value.type "tuple") = true := by rfl
  rw [if_pos (by rw [ht]; simp)]
  refine wpAny_bind (listItems_at ho' hd ?_)
  refine wpAny_bind (listItems_at (xs := #[]) (n := 0) (Heap.get?_push_size _ rfl) rfl ?_)
  rw [if_neg (by simp)]
  refine wpAny_bind (listUpdate_at (xs := #[]) (n := 0) (Heap.get?_push_size _ rfl) rfl ?_ (Nat.zero_le _) (by show (#[] ++ vs.toArray).size ≤ sizeLine + 1; simp only [Array.size_append, List.size_toArray, List.length_nil]; omega))
  refine wpAny_pure ?_
  show wpAny (model prog w) A (do
      let o ← load s.heap.objs.size
      match o.data with
      | .seq xs _ => pure xs.toList
      | _ => unsupported "internal:collect") Q E { s with heap := (s.heap.push (seqObj "list" #[] 0)).update s.heap.objs.size (Obj.mapSeq (· ++ vs.toArray)) }
  refine wpAny_bind (wpAny_load (get?_update_seq (Heap.get?_push_size _ rfl) _) ?_)
  show wpAny _ _ (pure ((#[] : Array Value) ++ vs.toArray).toList) Q E _
  rw [show ((#[] : Array Value) ++ vs.toArray).toList = vs by simp]
  exact wpAny_pure h
theorem rx_sorted_of_sort {l : Addr} {vs : List Value} {kw : List (Str × Value)} {Q : Value → Shared → Prop} (hl : s.heap.IsTuple l vs.toArray) (hL : vs.length ≤ sizeLine) (ha1 : argsOk "sorted" ⟨[.ref l], kw⟩) (ha2 : ∀ x, argsOk "list.sort" ⟨[.ref x], kw⟩)
    (body : ∀ E' : Value → Shared → Prop, wpAny (model prog w) A.in1.in1 (Builtin.«list.sort» ⟨[.ref (s.heap.objs.size + 1)], kw⟩) (fun f s' => f = .done (.ret .none) ∧ Q (.ref (s.heap.objs.size + 1)) s') E' { s with heap := copyHeap s.heap vs }) :
    wpAny (model prog w) A (call (.builtin "sorted") [.ref l] kw) Q E s := by
  refine call_function_entry_kw kind_sorted plain_sorted entry_sorted ha1 ?_
  unfold Builtin.«sorted»
  refine wpAny_bind (m := checkCount "sorted" 1 1 _) (wpAny_pure ?_)
  refine wpAny_bind (rx_collect_tuple hl ?_ hL)
  refine wpAny_bind (wpAny_newList ?_ hL)
  have hsz : ((s.heap.push (seqObj "list" #[] 0)).update s.heap.objs.size (Obj.mapSeq (· ++ vs.toArray))).objs.size = s.heap.objs.size + 1 := by
    rw [Heap.size_update, size_push']
  show wpAny _ _ _ _ _ { s with heap := copyHeap s.heap vs }
  rw [hsz]
  refine wpAny_bind (wpAny_holding (wpAny_call_entry_kw slot_list_sort ⟨_, copyHeap_at s.heap vs, rfl⟩ entry_list_sort ?body (ha2 _)))
  case body =>
    show wpAny (model prog w) A.in1.in1 (Builtin.«list.sort» ⟨[.ref (s.heap.objs.size + 1)], kw⟩) _ _ _
    refine wpAny_mono (body _) (fun f s' hf => ?_) fun _ _ e => e
    obtain ⟨rfl, hq⟩ := hf
    exact ⟨_, rfl, wpAny_pure ⟨_, rfl, hq⟩⟩
section
variable {β : Type} {R : Value → β → Prop} {enc : β → PyData} {vs : List Value} {bs : List β}
theorem rx_sorted_data {l : Addr} {Q : Value → Shared → Prop} (hl : s.heap.IsTuple l vs.toArray) (e : EachIs R vs bs) (er : EachIs (fun v b => ∃ as, Reads s.heap v (enc b) as) vs bs) (hal : AllAlike (bs.map enc)) (hk : Sortable (bs.map enc)) (hL : bs.length ≤ sizeLine)
    (hu : ∀ b, b ∈ bs → A.units + 2 + (enc b).depth < cLine) (h : ∀ out, out.length = bs.length → EachIs R out (bs.mergeSort (dataLe false enc)) → Q (.ref (s.heap.objs.size + 1)) { s with heap := sortedAll s.heap vs (List.toArray out) }) :
    wpAny (model prog w) A (call (.builtin "sorted") [.ref l]) Q E s := by
  have er' : EachIs (fun v b => ∃ as, Reads (sortingHeap (copyHeap s.heap vs) (s.heap.objs.size + 1) vs) v (enc b) as) vs bs := er.mono fun _ _ ⟨as, r⟩ => ⟨as, PyProof.Rows.Reads.keeps (fun _ _ => sorting_copy_old) r⟩
  have hL' : vs.length ≤ sizeLine := by rw [e.length]; exact hL
  exact rx_sorted_of_sort hl hL' (args_sorted1 _) (fun _ => args_list_sort _) fun _ => list_sort_vals (s := { s with heap := copyHeap s.heap vs }) (copyHeap_at s.heap vs)
    (SortsAt.data (s := { s with heap := sortingHeap (copyHeap s.heap vs) (s.heap.objs.size + 1) vs }) (each_map (R := fun v d => ∃ as, Reads (sortingHeap (copyHeap s.heap vs) (s.heap.objs.size + 1) vs) v d as) enc er') hal hk (bound_map hu)) hL'
    ⟨rfl, h _ (by rw [sortVals_length false rfl]; exact e.length) (sortVals_data false e er' hal)⟩
end
end
end PySem.W
namespace RX
open PySem PySem.Spec PyProof.Rows L2 DL
def leP : V × PyData → V × PyData → Bool := PySem.W.dataLe false Prod.snd
/-- sorted(xs), xs a list or a tuple of alike data -/
def rSortD (K : PySem.W.Frag) : List V → Hp → VK → Prop := fun xs H Q => ∃ (a : Addr) (vs : List V) (ds : List PyData), xs = [.ref a] ∧ (SqL K H a vs ∨ SqT K H a vs) ∧ DpAll K H vs ds ∧ PySem.W.AllAlike ds ∧ PySem.W.Sortable ds ∧ (∀ d ∈ ds, d.depth ≤ 3) ∧
  ∀ p, H p = none → Q (.ref p) (upd H p (.lst (((vs.zip ds).mergeSort leP).map Prod.fst)))
theorem dpall_len {K : PySem.W.Frag} {H : Hp} : ∀ {vs : List V} {ds : List PyData}, DpAll K H vs ds → vs.length = ds.length
  | _, _, .nil => rfl
  | _, _, .cons _ h => by rw [List.length_cons, List.length_cons, dpall_len h]
theorem each_zip {K : PySem.W.Frag} {H : Hp} {vs : List V} {ds : List PyData} {us : List Value} (h : DpAll K H vs ds) (r : Vals vs us) : PySem.W.EachIs (fun (u : Value) (b : V × PyData) => RelV b.1 u ∧ Dp K H b.1 b.2) us (vs.zip ds) := by
  induction r generalizing ds with
  | nil => cases h; exact .nil
  | cons r1 rr ih =>
    cases h with
    | cons h1 h2 => exact .cons ⟨r1, h1⟩ (ih h2)
theorem each_vals {Z : V × PyData → Prop} : ∀ {us : List Value} {bs : List (V × PyData)}, PySem.W.EachIs (fun (u : Value) (b : V × PyData) => RelV b.1 u ∧ Z b) us bs → Vals (bs.map Prod.fst) us
  | _, _, .nil => .nil
  | _, _, .cons h t => .cons h.1 (each_vals t)
theorem zip_snd {α β : Type} : ∀ {l : List α} {m : List β}, l.length = m.length → (l.zip m).map Prod.snd = m
  | [], [], _ => rfl
  | _ :: l, _ :: m, h => by rw [List.zip_cons_cons, List.map_cons, zip_snd (by simpa using h)]
theorem cr_sortD {X : Cx} (hu : X.A.units + 10 < cLine) : CallR X (.builtin "sorted") (rSortD X.K) := by
  intro pins s σ H xs us Q I r h
  obtain ⟨a, vs, ds, rfl, hs, hd, hal, hk, hdep, q⟩ := h
  rw [Vals.ref1 r]
  have hlen := dpall_len hd
  have fin : ∀ (its : List Value), Vals vs its → vs.length ≤ sizeLine → ∀ out : List Value, out.length = (vs.zip ds).length → PySem.W.EachIs (fun (u : Value) (b : V × PyData) => RelV b.1 u ∧ Dp X.K H b.1 b.2) out ((vs.zip ds).mergeSort leP) →
      EP X pins σ Q (.ref (s.heap.objs.size + 1)) { s with heap := sortedAll s.heap its (List.toArray out) } := fun its rv hz out ho e => by
    obtain ⟨ep, he'⟩ := PyProof.Rows.sortedAll_at s.heap its (List.toArray out)
    have hl2 : (((vs.zip ds).mergeSort leP).map Prod.fst).length ≤ sizeLine := by
      rw [List.length_map, List.length_mergeSort, List.length_zip]; omega
    exact ⟨.ref _, _, I.laid (t' := s.toks) (o := .lst (((vs.zip ds).mergeSort leP).map Prod.fst)) (fun _ _ => PyProof.Rows.sortedAll_old) (Nat.le_succ _) ⟨hl2, out, ep, each_vals e, he'⟩, rfl, q _ (I.hok.fresh (Nat.le_succ _))⟩
  have hmap : (vs.zip ds).map Prod.snd = ds := zip_snd hlen
  have hb : ∀ b, b ∈ vs.zip ds → X.A.units + 2 + (Prod.snd b).depth < cLine := fun b m => by
    have := hdep _ (by rw [← hmap]; exact List.mem_map.mpr ⟨b, m, rfl⟩)
    omega
  have hR : ∀ (its : List Value), Vals vs its → PySem.W.EachIs (fun (u : Value) (b : V × PyData) => ∃ as, Reads s.heap u (Prod.snd b) as) its (vs.zip ds) := fun its rv =>
    (each_zip hd rv).mono fun u b z => Dp.reads I b.2 b.1 u z.2 z.1
  rcases hs with hs | hs
  · obtain ⟨its, rv, hl, hz⟩ := I.list hs
    refine PySem.W.sorted_data (enc := Prod.snd) (bs := vs.zip ds) hl.isList (each_zip hd rv) (hR its rv) (by rw [hmap]; exact hal) (by rw [hmap]; exact hk) (by rw [List.length_zip]; omega) hb fun out ho e => fin its rv hz out ho e
  · obtain ⟨its, rv, hl, hz⟩ := I.tuple hs
    refine PySem.W.rx_sorted_data (enc := Prod.snd) (bs := vs.zip ds) (show s.heap.IsTuple a its.toArray from hl) (each_zip hd rv) (hR its rv) (by rw [hmap]; exact hal) (by rw [hmap]; exact hk) (by rw [List.length_zip]; omega) hb fun out ho e => fin its rv hz out ho e
section
variable {M : Md} {σ : L2.St} {B : Hp} {te tl : TE} {K : PySem.W.Frag} {d : D}
theorem zip_map_right {α β γ : Type} (f : β → γ) : ∀ (l : List α) (m : List β), l.zip (m.map f) = (l.zip m).map fun p => (p.1, f p.2)
  | [], _ => by simp
  | _ :: _, [] => by simp
  | a :: l, b :: m => by simp [zip_map_right f l m]
theorem dtl_zip {α : Type} {H : Hp} {en : α → D} : ∀ {l : List α} {vs : List V}, DtL H (l.map en) vs → ∀ p ∈ vs.zip l, Dt H (en p.2) p.1
  | [], _, _, p, m => by simp at m
  | a :: l, vs, h, p, m => by
    obtain ⟨v, r, rfl, h1, h2⟩ := DtL.cons_inv h
    rw [List.zip_cons_cons] at m
    rcases List.mem_cons.mp m with z | z
    · subst z; exact h1
    · exact dtl_zip h2 p z
theorem dtl_of {α : Type} {H : Hp} {en : α → D} : ∀ {bs : List (V × α)}, (∀ p ∈ bs, Dt H (en p.2) p.1) → DtL H ((bs.map Prod.snd).map en) (bs.map Prod.fst)
  | [], _ => DtL.nil
  | b :: bs, h => DtL.cons (h b List.mem_cons_self) (dtl_of fun p m => h p (List.mem_cons_of_mem _ m))
theorem dpall_of {α : Type} {H : Hp} {en : α → D} {ep : α → PyData} (pu : ∀ (H : Hp) v a, Dt H (en a) v → Dp K H v (ep a)) : ∀ {l : List α} {vs : List V}, DtL H (l.map en) vs → DpAll K H vs (l.map ep)
  | [], _, h => by rw [DtL.nil_inv h]; exact .nil
  | a :: l, vs, h => by
    obtain ⟨v, r, rfl, h1, h2⟩ := DtL.cons_inv h
    exact .cons (pu H v a h1) (dpall_of pu h2)
theorem rcf_sortG {α : Type} (en : α → D) (ep : α → PyData) (le : α → α → Bool) (hle : ∀ a b, PySem.W.dataLe false ep a b = le a b) (pu : ∀ (H : Hp) v a, Dt H (en a) v → Dp K H v (ep a)) (hal : ∀ a b, PySem.W.alike (ep a) (ep b) = true)
    (hk : ∀ l : List α, PySem.W.Sortable (l.map ep)) (hdep : ∀ a, (ep a).depth ≤ 3) {l : List α} (hs : sq d = some (l.map en)) : RCF M (rSortD K) [d] ((l.mergeSort le).map en) := fun F B H vs Q W e k => by
  obtain ⟨v, rfl, e1⟩ := one_inv e
  obtain ⟨a, vs, rfl, ha, hl⟩ := sq_get hs e1
  have hlH : DtL H (l.map en) vs := hl.mono hd_le
  refine ⟨a, vs, l.map ep, rfl, ?_, dpall_of pu hlH, ?_, hk l, ?_, fun p hp => ?_⟩
  · rcases ha with ha | ha
    · exact .inl (SqL.of (hdL ha))
    · exact .inr (SqT.of (hdT ha))
  · intro x hx y hy
    obtain ⟨a, _, rfl⟩ := List.mem_map.mp hx
    obtain ⟨b, _, rfl⟩ := List.mem_map.mp hy
    exact hal a b
  · intro x hx
    obtain ⟨a, _, rfl⟩ := List.mem_map.mp hx
    exact hdep a
  · have e2 : ((vs.zip (l.map ep)).mergeSort leP) = ((vs.zip l).mergeSort fun x y => le x.2 y.2).map fun p => (p.1, ep p.2) := by
      rw [zip_map_right]
      refine (List.map_mergeSort fun x _ y _ => ?_).symm
      rw [← hle]; rfl
    have e3 : ((vs.zip l).mergeSort fun x y => le x.2 y.2).map Prod.snd = l.mergeSort le := by
      have z := List.map_mergeSort (r := fun (x y : V × α) => le x.2 y.2) (s := le) (f := Prod.snd) (l := vs.zip l) (fun _ _ _ _ => rfl)
      rw [z, zip_snd (by rw [hl.length, List.length_map])]
    have e4 : (((vs.zip (l.map ep)).mergeSort leP).map Prod.fst) = ((vs.zip l).mergeSort fun x y => le x.2 y.2).map Prod.fst := by
      rw [e2, List.map_map]; rfl
    rw [e4]
    refine k p _ _ (Fr.of hp) (W.new hp _) upd_same ?_
    rw [← e3]
    have hm : ∀ q ∈ (vs.zip l).mergeSort fun x y => le x.2 y.2, Dt (Hd M F H) (en q.2) q.1 := fun q m => dtl_zip hl q ((List.mergeSort_perm _ _).mem_iff.mp m)
    exact (dtl_of hm).mono (hidden_up hp).le
/-! texts -/
def leS (a b : Str) : Bool := decide (a.cps.toList ≤ b.cps.toList)
theorem rcf_sortS {l : List Str} (hs : sq d = some (l.map D.str)) : RCF M (rSortD K) [d] ((l.mergeSort leS).map D.str) :=
  rcf_sortG D.str PyData.str leS (fun a b => by rw [PySem.W.dataLe_str (fun b : Str => b)]; rfl) (fun H v a h => by cases (show v = .str a from h); exact .str a) (fun a b => by simp [PySem.W.alike]) (fun l => .inr fun d m => by
    obtain ⟨a, _, rfl⟩ := List.mem_map.mp m
    exact ⟨(fun z => by cases z), (fun xs z => by cases z)⟩) (fun a => by simp [PyData.depth]) hs
/-! pairs of texts -/
def pD (p : Str × Str) : D := .tup [.str p.1, .str p.2]
def leSS (a b : Str × Str) : Bool := if a.1 = b.1 then leS a.2 b.2 else leS a.1 b.1
theorem rcf_sortSS {l : List (Str × Str)} (hs : sq d = some (l.map pD)) : RCF M (rSortD K) [d] ((l.mergeSort leSS).map pD) :=
  rcf_sortG pD (fun p => .tuple [.str p.1, .str p.2]) leSS (fun a b => by
    rw [PySem.W.dataLe_eq]
    show (!PySem.W.dataLt (.tuple [.str b.1, .str b.2]) (.tuple [.str a.1, .str a.2])) = leSS a b
    rw [PySem.W.dataLt_pair (by simp [PySem.W.alike]) (by simp [PySem.W.alike]), PySem.W.dataLt_str, PySem.W.dataLt_str]
    have e1 : PyData.eqv (.str b.1) (.str a.1) = decide (b.1 = a.1) := by simp only [PyData.eqv]; by_cases z : b.1 = a.1 <;> simp [z]
    have e2 : PyData.eqv (.str b.2) (.str a.2) = decide (b.2 = a.2) := by simp only [PyData.eqv]; by_cases z : b.2 = a.2 <;> simp [z]
    rw [e1, e2]
    unfold leSS leS
    by_cases h1 : a.1 = b.1
    · rw [if_pos h1, if_pos (by simp [h1])]
      by_cases h2 : a.2 = b.2
      · rw [if_pos (by simp [h2]), h2]
        simp
      · rw [if_neg (by simp; exact fun z => h2 z.symm)]
        exact PySem.W.not_lt_str _ _
    · rw [if_neg h1, if_neg (by simp; exact fun z => h1 z.symm)]
      exact PySem.W.not_lt_str _ _) (fun H v a h => by
    obtain ⟨p, vs, rfl, hp, hl⟩ := tup_inv (show Dt H (.tup [.str a.1, .str a.2]) v from h)
    obtain ⟨x, y, rfl, hx, hy⟩ := two_inv hl
    cases (show x = .str a.1 from hx)
    cases (show y = .str a.2 from hy)
    exact .tup (SqT.of hp) (.cons (.str _) (.cons (.str _) .nil))) (fun a b => by simp [PySem.W.alike, PySem.W.alikeAll]) (fun l => .inl fun d m => by
    obtain ⟨a, _, rfl⟩ := List.mem_map.mp m
    exact ⟨_, _, rfl⟩) (fun a => by simp [PyData.depth, PyData.depthAll]) hs
end
/-! min, max of two texts in a list or a tuple -/
def minS (a b : Str) : Str := if b.cps.toList < a.cps.toList then b else a
def maxS (a b : Str) : Str := if a.cps.toList < b.cps.toList then b else a
def rMM (K : PySem.W.Frag) (g : Str → Str → Str) : List V → Hp → VK → Prop := fun xs H Q => ∃ (a : Addr) (x y : Str), xs = [.ref a] ∧ (SqL K H a [.str x, .str y] ∨ SqT K H a [.str x, .str y]) ∧ Q (.str (g x y)) H
theorem vals_ss {x y : Str} {its : List Value} (rv : Vals [V.str x, V.str y] its) : ∃ t u, its = [.str x t, .str y u] := by
  obtain ⟨u1, u2, rfl, r1, r2⟩ := vals2 rv
  obtain ⟨t, rfl⟩ := r1
  obtain ⟨u, rfl⟩ := r2
  exact ⟨t, u, rfl⟩
theorem cr_minS {X : Cx} (hc : X.calm = true) (hu : X.A.units + 10 < cLine) : CallR X (.builtin "min") (rMM X.K minS) := by
  intro pins s σ H xs us Q I r h
  obtain ⟨a, x, y, rfl, hs, q⟩ := h
  rw [Vals.ref1 r]
  have fin : ∀ (i : Nat) v (h' : Heap) tk bs (l : List Value), (∃ t u, l = [.str x t, .str y u]) → l[i]? = some v → Reads h' v (PySem.W.minD (.str x) [.str y]) bs → (∀ b o, s.heap.get? b = some o → h'.get? b = some o) → EP X pins σ Q v { s with heap := h', toks := tk } := fun i v h' tk bs l hl hi hr hk => by
    obtain ⟨t, u, rfl⟩ := hl
    have e : PySem.W.minD (.str x) [.str y] = .str (minS x y) := by
      show (if PySem.W.dataLt (.str y) (.str x) = true then PyData.str y else .str x) = _
      rw [PySem.W.dataLt_str]
      unfold minS
      by_cases z : y.cps.toList < x.cps.toList <;> simp [z]
    rw [e] at hr
    cases hr with
    | str _ t' => exact ⟨.str (minS x y), H, I.kept (t' := tk) hk, ⟨t', rfl⟩, q⟩
  have hal : PySem.W.AlikeAll [PyData.str x, PyData.str y] := PySem.W.alikeAll_datum (α := Str) [x, y]
  rcases hs with hs | hs
  · obtain ⟨its, rv, hl, hz⟩ := I.list hs
    obtain ⟨t, u, e⟩ := vals_ss rv
    subst e
    exact PySem.W.min_list_data (x := .str x) (xs := [.str y]) (I.ok.hd hc) hl.isList (.cons (.str x t) (.cons (.str y u) .nil)) hal (by simp [PyData.depthAll, PyData.depth]; omega) fun i v h' tk bs hi hr hk => fin i v h' tk bs _ ⟨t, u, rfl⟩ (by simpa using hi) hr hk
  · obtain ⟨its, rv, hl, hz⟩ := I.tuple hs
    obtain ⟨t, u, e⟩ := vals_ss rv
    subst e
    exact PySem.W.min_tuple_data (x := .str x) (xs := [.str y]) (I.ok.hd hc) (show s.heap.IsTuple a _ from hl) (.cons (.str x t) (.cons (.str y u) .nil)) hal (by simp [PyData.depthAll, PyData.depth]; omega) fun i v h' tk bs hi hr hk => fin i v h' tk bs _ ⟨t, u, rfl⟩ (by simpa using hi) hr hk
theorem cr_maxS {X : Cx} (hc : X.calm = true) (hu : X.A.units + 10 < cLine) : CallR X (.builtin "max") (rMM X.K maxS) := by
  intro pins s σ H xs us Q I r h
  obtain ⟨a, x, y, rfl, hs, q⟩ := h
  rw [Vals.ref1 r]
  have fin : ∀ (i : Nat) v (h' : Heap) tk bs (l : List Value), (∃ t u, l = [.str x t, .str y u]) → l[i]? = some v → Reads h' v (PySem.W.maxD (.str x) [.str y]) bs → (∀ b o, s.heap.get? b = some o → h'.get? b = some o) → EP X pins σ Q v { s with heap := h', toks := tk } := fun i v h' tk bs l hl hi hr hk => by
    obtain ⟨t, u, rfl⟩ := hl
    have e : PySem.W.maxD (.str x) [.str y] = .str (maxS x y) := by
      show (if PySem.W.dataLt (.str x) (.str y) = true then PyData.str y else .str x) = _
      rw [PySem.W.dataLt_str]
      unfold maxS
      by_cases z : x.cps.toList < y.cps.toList <;> simp [z]
    rw [e] at hr
    cases hr with
    | str _ t' => exact ⟨.str (maxS x y), H, I.kept (t' := tk) hk, ⟨t', rfl⟩, q⟩
  have hal : PySem.W.AlikeAll [PyData.str x, PyData.str y] := PySem.W.alikeAll_datum (α := Str) [x, y]
  rcases hs with hs | hs
  · obtain ⟨its, rv, hl, hz⟩ := I.list hs
    obtain ⟨t, u, e⟩ := vals_ss rv
    subst e
    exact PySem.W.max_list_data (x := .str x) (xs := [.str y]) (I.ok.hd hc) hl.isList (.cons (.str x t) (.cons (.str y u) .nil)) hal (by simp [PyData.depthAll, PyData.depth]; omega) fun i v h' tk bs hi hr hk => fin i v h' tk bs _ ⟨t, u, rfl⟩ (by simpa using hi) hr hk
  · obtain ⟨its, rv, hl, hz⟩ := I.tuple hs
    obtain ⟨t, u, e⟩ := vals_ss rv
    subst e
    exact PySem.W.max_tuple_data (x := .str x) (xs := [.str y]) (I.ok.hd hc) (show s.heap.IsTuple a _ from hl) (.cons (.str x t) (.cons (.str y u) .nil)) hal (by simp [PyData.depthAll, PyData.depth]; omega) fun i v h' tk bs hi hr hk => fin i v h' tk bs _ ⟨t, u, rfl⟩ (by simpa using hi) hr hk
section
variable {M : Md} {σ : L2.St} {B : Hp} {te tl : TE} {K : PySem.W.Frag} {d : D}
theorem rc_mm {g : Str → Str → Str} {x y : Str} (hs : sq d = some [.str x, .str y]) : RC M (rMM K g) [d] (.str (g x y)) := fun F B H vs Q W e k => by
  obtain ⟨v, rfl, e1⟩ := one_inv e
  obtain ⟨a, vs, rfl, ha, hl⟩ := sq_get hs e1
  obtain ⟨v1, v2, rfl, h1, h2⟩ := two_inv hl
  cases (show v1 = .str x from h1)
  cases (show v2 = .str y from h2)
  refine ⟨a, x, y, rfl, ?_, k _ H (Go.refl W.i) rfl⟩
  rcases ha with ha | ha
  · exact .inl (SqL.of (hdL ha))
  · exact .inr (SqT.of (hdT ha))
end
end RX

/-! The text by places. -/
namespace Pg
open PySem PySem.Spec PyProof.Rows L2 DL
def topS (i : Nat) : Stmt := PySem.Challenge.pw_lentaround_k99_whole_readings_as_texts.main.body.getD i (.Pass ⟨0, 0, 0, 0⟩)
abbrev s_wall : Stmt := topS 0
theorem sc_wall : FnScope ["k"] ["k"] (defScope s_wall) := ⟨rfl, rfl, rfl, by decide +kernel, rfl, by decide +kernel, by decide +kernel⟩
abbrev s_is_list : Stmt := topS 3
theorem sc_is_list : FnScope ["thing"] ["thing"] (defScope s_is_list) := ⟨rfl, rfl, rfl, by decide +kernel, rfl, by decide +kernel, by decide +kernel⟩
abbrev s_is_whole : Stmt := topS 4
theorem sc_is_whole : FnScope ["thing"] ["thing"] (defScope s_is_whole) := ⟨rfl, rfl, rfl, by decide +kernel, rfl, by decide +kernel, by decide +kernel⟩
abbrev s_is_number : Stmt := topS 5
theorem sc_is_number : FnScope ["thing"] ["thing"] (defScope s_is_number) := ⟨rfl, rfl, rfl, by decide +kernel, rfl, by decide +kernel, by decide +kernel⟩
abbrev s_is_row : Stmt := topS 6
theorem sc_is_row : FnScope ["thing", "many"] ["thing", "many"] (defScope s_is_row) := ⟨rfl, rfl, rfl, by decide +kernel, rfl, by decide +kernel, by decide +kernel⟩
abbrev s_is_name : Stmt := topS 7
theorem sc_is_name : FnScope ["thing", "sign"] ["thing"] (defScope s_is_name) := ⟨rfl, rfl, rfl, by decide +kernel, rfl, by decide +kernel, by decide +kernel⟩
abbrev s_BadHouses_init : Stmt := inClass (topS 10) 0
theorem sc_BadHouses_init : FnScope ["self", "index"] ["self", "index"] (defScope s_BadHouses_init) := ⟨rfl, rfl, rfl, by decide +kernel, rfl, by decide +kernel, by decide +kernel⟩
abbrev s_BadLanes_init : Stmt := inClass (topS 11) 0
theorem sc_BadLanes_init : FnScope ["self", "index"] ["self", "index"] (defScope s_BadLanes_init) := ⟨rfl, rfl, rfl, by decide +kernel, rfl, by decide +kernel, by decide +kernel⟩
abbrev s_Scattered_init : Stmt := inClass (topS 12) 0
theorem sc_Scattered_init : FnScope ["self", "house"] ["self", "house"] (defScope s_Scattered_init) := ⟨rfl, rfl, rfl, by decide +kernel, rfl, by decide +kernel, by decide +kernel⟩
abbrev s_BadVillage_init : Stmt := inClass (topS 13) 0
theorem sc_BadVillage_init : FnScope ["self", "village"] ["self", "village"] (defScope s_BadVillage_init) := ⟨rfl, rfl, rfl, by decide +kernel, rfl, by decide +kernel, by decide +kernel⟩
abbrev s_BadPurse_init : Stmt := inClass (topS 14) 0
theorem sc_BadPurse_init : FnScope ["self", "purse"] ["self", "purse"] (defScope s_BadPurse_init) := ⟨rfl, rfl, rfl, by decide +kernel, rfl, by decide +kernel, by decide +kernel⟩
abbrev s_BadReading_init : Stmt := inClass (topS 15) 0
theorem sc_BadReading_init : FnScope ["self", "reading"] ["self", "reading"] (defScope s_BadReading_init) := ⟨rfl, rfl, rfl, by decide +kernel, rfl, by decide +kernel, by decide +kernel⟩
abbrev s_BadText_init : Stmt := inClass (topS 16) 0
theorem sc_BadText_init : FnScope ["self", "line"] ["self", "line"] (defScope s_BadText_init) := ⟨rfl, rfl, rfl, by decide +kernel, rfl, by decide +kernel, by decide +kernel⟩
abbrev s_first_bad_house : Stmt := topS 18
theorem sc_first_bad_house : FnScope ["houses", "known", "index", "house"] ["houses"] (defScope s_first_bad_house) := ⟨rfl, rfl, rfl, by decide +kernel, rfl, by decide +kernel, by decide +kernel⟩
abbrev s_Village_init : Stmt := inClass (topS 19) 0
theorem sc_Village_init : FnScope ["self", "houses", "lanes", "wrong", "index", "lane", "other", "house", "one", "lost"] ["self", "houses", "lanes"] (defScope s_Village_init) := ⟨rfl, rfl, rfl, by decide +kernel, rfl, by decide +kernel, by decide +kernel⟩
abbrev s_Village_is_lane : Stmt := inClass (topS 19) 1
theorem sc_Village_is_lane : FnScope ["self", "thing", "house"] ["self", "thing"] (defScope s_Village_is_lane) := ⟨rfl, rfl, rfl, by decide +kernel, rfl, by decide +kernel, by decide +kernel⟩
abbrev s_Village_first_lost : Stmt := inClass (topS 19) 2
theorem sc_Village_first_lost : FnScope ["self", "known", "left", "house", "other", "lost"] ["self"] (defScope s_Village_first_lost) := ⟨rfl, rfl, rfl, by decide +kernel, rfl, by decide +kernel, by decide +kernel⟩
abbrev s_Village_houses : Stmt := inClass (topS 19) 3
theorem sc_Village_houses : FnScope ["self"] ["self"] (defScope s_Village_houses) := ⟨rfl, rfl, rfl, by decide +kernel, rfl, by decide +kernel, by decide +kernel⟩
abbrev s_Village_lanes : Stmt := inClass (topS 19) 4
theorem sc_Village_lanes : FnScope ["self"] ["self"] (defScope s_Village_lanes) := ⟨rfl, rfl, rfl, by decide +kernel, rfl, by decide +kernel, by decide +kernel⟩
abbrev s_Village_between : Stmt := inClass (topS 19) 5
theorem sc_Village_between : FnScope ["self", "one", "other"] ["self", "one", "other"] (defScope s_Village_between) := ⟨rfl, rfl, rfl, by decide +kernel, rfl, by decide +kernel, by decide +kernel⟩
abbrev s_Village_degree : Stmt := inClass (topS 19) 6
theorem sc_Village_degree : FnScope ["self", "house"] ["self", "house"] (defScope s_Village_degree) := ⟨rfl, rfl, rfl, by decide +kernel, rfl, by decide +kernel, by decide +kernel⟩
abbrev s_Village_eq : Stmt := inClass (topS 19) 7
theorem sc_Village_eq : FnScope ["self", "other"] ["self", "other"] (defScope s_Village_eq) := ⟨rfl, rfl, rfl, by decide +kernel, rfl, by decide +kernel, by decide +kernel⟩
abbrev s_is_house : Stmt := topS 20
theorem sc_is_house : FnScope ["village", "thing"] ["village", "thing"] (defScope s_is_house) := ⟨rfl, rfl, rfl, by decide +kernel, rfl, by decide +kernel, by decide +kernel⟩
abbrev s_check_village : Stmt := topS 21
theorem sc_check_village : FnScope ["village"] ["village"] (defScope s_check_village) := ⟨rfl, rfl, rfl, by decide +kernel, rfl, by decide +kernel, by decide +kernel⟩
abbrev s_degree_of : Stmt := topS 22
theorem sc_degree_of : FnScope ["village", "house"] ["village", "house"] (defScope s_degree_of) := ⟨rfl, rfl, rfl, by decide +kernel, rfl, by decide +kernel, by decide +kernel⟩
abbrev s_is_counts : Stmt := topS 23
theorem sc_is_counts : FnScope ["village", "thing", "house", "number"] ["village", "thing"] (defScope s_is_counts) := ⟨rfl, rfl, rfl, by decide +kernel, rfl, by decide +kernel, by decide +kernel⟩
abbrev s_check_purse : Stmt := topS 24
theorem sc_check_purse : FnScope ["village", "purse"] ["village", "purse"] (defScope s_check_purse) := ⟨rfl, rfl, rfl, by decide +kernel, rfl, by decide +kernel, by decide +kernel⟩
abbrev s_ordered : Stmt := topS 25
theorem sc_ordered : FnScope ["village", "purse", "house"] ["village", "purse"] (defScope s_ordered) := ⟨rfl, rfl, rfl, by decide +kernel, rfl, by decide +kernel, by decide +kernel⟩
abbrev s_behind : Stmt := topS 26
theorem sc_behind : FnScope ["village", "purse", "script", "found", "house", "got", "other", "lanes"] ["village", "purse", "script"] (defScope s_behind) := ⟨rfl, rfl, rfl, by decide +kernel, rfl, by decide +kernel, by decide +kernel⟩
abbrev s_is_reading_of : Stmt := topS 28
theorem sc_is_reading_of : FnScope ["village", "thing", "modulus", "weights", "weight", "given", "house", "number"] ["village", "thing"] (defScope s_is_reading_of) := ⟨rfl, rfl, rfl, by decide +kernel, rfl, by decide +kernel, by decide +kernel⟩
abbrev s_rows_text : Stmt := topS 30
theorem sc_rows_text : FnScope ["rows", "word", "row"] ["rows"] (defScope s_rows_text) := ⟨rfl, rfl, rfl, by decide +kernel, rfl, by decide +kernel, by decide +kernel⟩
abbrev s_village_text : Stmt := topS 31
theorem sc_village_text : FnScope ["village", "found", "house", "lane"] ["village"] (defScope s_village_text) := ⟨rfl, rfl, rfl, by decide +kernel, rfl, by decide +kernel, by decide +kernel⟩
abbrev s_purse_text : Stmt := topS 32
theorem sc_purse_text : FnScope ["village", "purse", "house", "number"] ["village", "purse"] (defScope s_purse_text) := ⟨rfl, rfl, rfl, by decide +kernel, rfl, by decide +kernel, by decide +kernel⟩
abbrev s_reading_text : Stmt := topS 33
theorem sc_reading_text : FnScope ["village", "reading", "found", "house", "number"] ["village", "reading"] (defScope s_reading_text) := ⟨rfl, rfl, rfl, by decide +kernel, rfl, by decide +kernel, by decide +kernel⟩
abbrev s_integer_of : Stmt := topS 34
theorem sc_integer_of : FnScope ["word", "signs", "sign"] ["word"] (defScope s_integer_of) := ⟨rfl, rfl, rfl, by decide +kernel, rfl, by decide +kernel, by decide +kernel⟩
abbrev s_lines_of : Stmt := topS 35
theorem sc_lines_of : FnScope ["text", "pieces"] ["text"] (defScope s_lines_of) := ⟨rfl, rfl, rfl, by decide +kernel, rfl, by decide +kernel, by decide +kernel⟩
abbrev s_read_purse : Stmt := topS 36
theorem sc_read_purse : FnScope ["village", "text", "lines", "rest", "found", "index", "line", "words", "number"] ["village", "text"] (defScope s_read_purse) := ⟨rfl, rfl, rfl, by decide +kernel, rfl, by decide +kernel, by decide +kernel⟩
abbrev s_modulus_of : Stmt := topS 37
theorem sc_modulus_of : FnScope ["line", "words", "number"] ["line"] (defScope s_modulus_of) := ⟨rfl, rfl, rfl, by decide +kernel, rfl, by decide +kernel, by decide +kernel⟩
abbrev s_read_reading : Stmt := topS 38
theorem sc_read_reading : FnScope ["village", "text", "lines", "rest", "modulus", "found", "index", "line", "words", "number"] ["village", "text"] (defScope s_read_reading) := ⟨rfl, rfl, rfl, by decide +kernel, rfl, by decide +kernel, by decide +kernel⟩
abbrev s_law_stream : Stmt := topS 40
theorem sc_law_stream : FnScope ["script"] ["script"] (defScope s_law_stream) := ⟨rfl, rfl, rfl, by decide +kernel, rfl, by decide +kernel, by decide +kernel⟩
abbrev s_law_draw : Stmt := topS 41
theorem sc_law_draw : FnScope ["stream", "many", "cell", "digit", "mixed"] ["stream", "many"] (defScope s_law_draw) := ⟨rfl, rfl, rfl, by decide +kernel, rfl, by decide +kernel, by decide +kernel⟩
abbrev s_law_pick : Stmt := topS 42
theorem sc_law_pick : FnScope ["stream", "things"] ["stream", "things"] (defScope s_law_pick) := ⟨rfl, rfl, rfl, by decide +kernel, rfl, by decide +kernel, by decide +kernel⟩
abbrev s_law_mixed : Stmt := topS 43
theorem sc_law_mixed : FnScope ["stream", "things", "left", "found", "k"] ["stream", "things"] (defScope s_law_mixed) := ⟨rfl, rfl, rfl, by decide +kernel, rfl, by decide +kernel, by decide +kernel⟩
abbrev s_law_same : Stmt := topS 44
theorem sc_law_same : FnScope ["found", "due", "mine", "theirs"] ["found", "due"] (defScope s_law_same) := ⟨rfl, rfl, rfl, by decide +kernel, rfl, by decide +kernel, by decide +kernel⟩
abbrev s_law_loose : Stmt := topS 45
theorem sc_law_loose : FnScope ["stream", "thing", "some", "one"] ["stream", "thing"] (defScope s_law_loose) := ⟨rfl, rfl, rfl, by decide +kernel, rfl, by decide +kernel, by decide +kernel⟩
abbrev s_law_copied : Stmt := topS 46
theorem sc_law_copied : FnScope ["thing", "some", "one", "key"] ["thing"] (defScope s_law_copied) := ⟨rfl, rfl, rfl, by decide +kernel, rfl, by decide +kernel, by decide +kernel⟩
abbrev s_law_names : Stmt := topS 47
theorem sc_law_names : FnScope ["stream", "many", "found", "signs", "k", "name", "one", "at"] ["stream", "many"] (defScope s_law_names) := ⟨rfl, rfl, rfl, by decide +kernel, rfl, by decide +kernel, by decide +kernel⟩
abbrev s_law_behind : Stmt := topS 48
theorem sc_law_behind : FnScope ["village", "purse", "script", "found", "house", "one", "other", "more"] ["village", "purse", "script"] (defScope s_law_behind) := ⟨rfl, rfl, rfl, by decide +kernel, rfl, by decide +kernel, by decide +kernel⟩
abbrev s_law_is_counts : Stmt := topS 49
theorem sc_law_is_counts : FnScope ["village", "thing", "house"] ["village", "thing"] (defScope s_law_is_counts) := ⟨rfl, rfl, rfl, by decide +kernel, rfl, by decide +kernel, by decide +kernel⟩
abbrev s_law_is_reading : Stmt := topS 50
theorem sc_law_is_reading : FnScope ["village", "thing", "house", "given"] ["village", "thing"] (defScope s_law_is_reading) := ⟨rfl, rfl, rfl, by decide +kernel, rfl, by decide +kernel, by decide +kernel⟩
abbrev s_law_village : Stmt := topS 51
theorem sc_law_village : FnScope ["stream", "houses", "lanes", "names", "mixed", "found", "way", "at", "k", "lane"] ["stream", "houses", "lanes"] (defScope s_law_village) := ⟨rfl, rfl, rfl, by decide +kernel, rfl, by decide +kernel, by decide +kernel⟩
abbrev s_law_made : Stmt := topS 52
theorem sc_law_made : FnScope ["stream", "village", "lanes", "lane"] ["stream", "village"] (defScope s_law_made) := ⟨rfl, rfl, rfl, by decide +kernel, rfl, by decide +kernel, by decide +kernel⟩
abbrev s_law_integer : Stmt := topS 53
theorem sc_law_integer : FnScope ["word", "signs", "sign"] ["word"] (defScope s_law_integer) := ⟨rfl, rfl, rfl, by decide +kernel, rfl, by decide +kernel, by decide +kernel⟩
abbrev s_law_read_so : Stmt := topS 54
theorem sc_law_read_so : FnScope ["village", "text", "lines", "modulus", "found", "k", "line", "words", "number"] ["village", "text"] (defScope s_law_read_so) := ⟨rfl, rfl, rfl, by decide +kernel, rfl, by decide +kernel, by decide +kernel⟩
abbrev s_law_readings : Stmt := topS 55
theorem sc_law_readings : FnScope ["stream", "village", "modulus", "rows", "house", "longer", "some", "weight", "found"] ["stream", "village"] (defScope s_law_readings) := ⟨rfl, rfl, rfl, by decide +kernel, rfl, by decide +kernel, by decide +kernel⟩
abbrev s_law_bent : Stmt := topS 56
theorem sc_law_bent : FnScope ["stream", "text", "lines", "way", "at", "to", "words", "place"] ["stream", "text"] (defScope s_law_bent) := ⟨rfl, rfl, rfl, by decide +kernel, rfl, by decide +kernel, by decide +kernel⟩
abbrev s_law_met : Stmt := topS 57
theorem sc_law_met : FnScope ["ask", "e"] ["ask"] (defScope s_law_met) := ⟨rfl, rfl, rfl, by decide +kernel, rfl, by decide +kernel, by decide +kernel⟩
abbrev s_law_refusal : Stmt := topS 58
theorem sc_law_refusal : FnScope ["ask", "e"] ["ask"] (defScope s_law_refusal) := ⟨rfl, rfl, rfl, by decide +kernel, rfl, by decide +kernel, by decide +kernel⟩
abbrev s_law_are_refused : Stmt := topS 59
theorem sc_law_are_refused : FnScope ["stream", "village", "made", "odd", "told"] ["stream", "village", "made"] (defScope s_law_are_refused) := ⟨rfl, rfl, rfl, by decide +kernel, rfl, by decide +kernel, by decide +kernel⟩
abbrev s_law : Stmt := topS 60
theorem sc_law : FnScope ["script", "stream", "turn", "village", "made", "reading", "due", "house", "handed", "whole", "told", "texts", "k", "text", "found", "wanted", "odd"] ["script"] (defScope s_law) := ⟨rfl, rfl, rfl, by decide +kernel, rfl, by decide +kernel, by decide +kernel⟩
end Pg

namespace Pg
open PySem PySem.Spec PyProof.Rows L2 DL
/-- built-in names that the text leaves alone -/
structure Bn (mg : Str → Option Value) : Prop where
  isinstance : mg "isinstance" = none
  len : mg "len" = none
  list : mg "list" = none
  tuple : mg "tuple" = none
  int : mg "int" = none
  str : mg "str" = none
  bool : mg "bool" = none
  dict : mg "dict" = none
  all : mg "all" = none
  sum : mg "sum" = none
  sorted : mg "sorted" = none
  enumerate : mg "enumerate" = none
  zip : mg "zip" = none
  range : mg "range" = none
  min : mg "min" = none
  max : mg "max" = none
  abs : mg "abs" = none
structure OkF (P : Program) (w : World) (K : PySem.W.Frag) (mg : Str → Option Value) (base : Heap) (k : Nat) (f : Addr) (ps : List Str) (sp : Sp) : Prop where
  ex : ∃ fd, FnOk P w K mg base CX0 k f fd ps sp ∧ Binds K fd ps []
  kp : PySem.W.keepIn K (.ref f) = true
theorem pe_c {X : Cx} {k : Nat} {f : Addr} {ps : List Str} {sp : Sp} {x : Str} {p pos : Pos} {e : Expr} {es : List Expr} {t : TA} (O : OkF X.prog X.w X.K X.mg X.base k f ps sp) (hr : Room k X.A) (hm : X.mg x = some (.ref f))
    (ha : PA X (e :: es) t) (hg : Gl X x := by rfl) (hdb : (x == ("__debug__" : Str)) = false := by decide) (he : starEach (e :: es) X.env = (false, eval e X.env) :: starEach es X.env := by rfl) (hpl : (backTo pos (starEach es X.env)).any (·.1) = false := by rfl) : PE X (.Call (.Name x p) (e :: es) [] pos) (tCall sp [] E0 t) := by
  obtain ⟨⟨fd, G, b⟩, kp⟩ := O
  exact pe_call G hr hg hm kp b .nil pass0 ha hdb he hpl
def Sp1 (pre : D → Prop) (f : D → D) : Sp := SpP (fun ds => ∃ d, ds = [d] ∧ pre d) fun ds => match ds with | [d] => f d | _ => .non
def Sp2 (pre : D → D → Prop) (f : D → D → D) : Sp := SpP (fun ds => ∃ d e, ds = [d, e] ∧ pre d e) fun ds => match ds with | [d, e] => f d e | _ => .non
def okV (C : Addr) (d : D) : Prop := okC (fun C' => C' = C) d
/-- what the text's one class of values says of isinstance -/
structure VF (K : PySem.W.Frag) (C : Addr) : Prop where
  ci : ClsI K C
  ll : PySem.W.kitAny K (.ref C) [.type "list", .type "tuple"] = some false
  int : PySem.W.kitOne K (.ref C) (.type "int") = some false
  bool : PySem.W.kitOne K (.ref C) (.type "bool") = some false
  str : PySem.W.kitOne K (.ref C) (.type "str") = some false
  list : PySem.W.kitOne K (.ref C) (.type "list") = some false
  tuple : PySem.W.kitOne K (.ref C) (.type "tuple") = some false
  dict : PySem.W.kitOne K (.ref C) (.type "dict") = some false
  oN : PySem.W.kitOne K (.type "NoneType") (.ref C) = some false
  oB : PySem.W.kitOne K (.type "bool") (.ref C) = some false
  oI : PySem.W.kitOne K (.type "int") (.ref C) = some false
  oS : PySem.W.kitOne K (.type "str") (.ref C) = some false
  oL : PySem.W.kitOne K (.type "list") (.ref C) = some false
  oT : PySem.W.kitOne K (.type "tuple") (.ref C) = some false
  oD : PySem.W.kitOne K (.type "dict") (.ref C) = some false
def isListD : D → Bool
  | .lst _ => true
  | .tup _ => true
  | _ => false
def isIntD : D → Bool
  | .int _ => true
  | .bl _ => true
  | _ => false
def isBoolD : D → Bool
  | .bl _ => true
  | _ => false
def isStrD : D → Bool
  | .str _ => true
  | _ => false
def isDictD : D → Bool
  | .dic _ _ => true
  | _ => false
def isLstD : D → Bool
  | .lst _ => true
  | _ => false
def isTupD : D → Bool
  | .tup _ => true
  | _ => false
def isVilD : D → Bool
  | .ins _ _ _ => true
  | _ => false
section
variable {P : Program} {w : World} {K : PySem.W.Frag} {mg : Str → Option Value} {base : Heap} {f C : Addr} {fd : FuncData} {M : Md} {σ : L2.St} {B : Hp} {te : TE} {d : D}
theorem okV.ok (v : VF K C) (h : okV C d) : okC (ClsI K) d := by
  cases d <;> first | trivial | (cases h; exact v.ci)
theorem kit_list (v : VF K C) (h : okV C d) : PySem.W.kitAny K (tyD d) [.type "list", .type "tuple"] = some (isListD d) := by
  cases d with
  | ins C' fs l => cases h; exact v.ll
  | lst l => exact kitAny_cons (b := true) (kit_ty (by decide +kernel)) (fun z => by cases z) fun _ => rfl
  | tup l => exact kitAny_cons (b := false) (kit_ty (by decide +kernel)) (fun z => kitAny_cons (b := true) (kit_ty (by decide +kernel)) (fun z => by cases z) fun _ => rfl) (fun z => by cases z)
  | _ => exact kitAny_cons (b := false) (kit_ty (by decide +kernel)) (fun z => kitAny_cons (b := false) (kit_ty (by decide +kernel)) (fun z => kitAny_nil) (fun z => by cases z)) (fun z => by cases z)
theorem kit_int (v : VF K C) (h : okV C d) : PySem.W.kitOne K (tyD d) (.type "int") = some (isIntD d) := by
  cases d with
  | ins C' fs l => cases h; exact v.int
  | _ => first | exact kit_ty (r := true) (by decide +kernel) | exact kit_ty (r := false) (by decide +kernel)
theorem kit_bool (v : VF K C) (h : okV C d) : PySem.W.kitOne K (tyD d) (.type "bool") = some (isBoolD d) := by
  cases d with
  | ins C' fs l => cases h; exact v.bool
  | _ => first | exact kit_ty (r := true) (by decide +kernel) | exact kit_ty (r := false) (by decide +kernel)
theorem kit_str (v : VF K C) (h : okV C d) : PySem.W.kitOne K (tyD d) (.type "str") = some (isStrD d) := by
  cases d with
  | ins C' fs l => cases h; exact v.str
  | _ => first | exact kit_ty (r := true) (by decide +kernel) | exact kit_ty (r := false) (by decide +kernel)
theorem kit_dict (v : VF K C) (h : okV C d) : PySem.W.kitOne K (tyD d) (.type "dict") = some (isDictD d) := by
  cases d with
  | ins C' fs l => cases h; exact v.dict
  | _ => first | exact kit_ty (r := true) (by decide +kernel) | exact kit_ty (r := false) (by decide +kernel)
theorem kit_lst (v : VF K C) (h : okV C d) : PySem.W.kitOne K (tyD d) (.type "list") = some (isLstD d) := by
  cases d with
  | ins C' fs l => cases h; exact v.list
  | _ => first | exact kit_ty (r := true) (by decide +kernel) | exact kit_ty (r := false) (by decide +kernel)
theorem kit_tup (v : VF K C) (h : okV C d) : PySem.W.kitOne K (tyD d) (.type "tuple") = some (isTupD d) := by
  cases d with
  | ins C' fs l => cases h; exact v.tuple
  | _ => first | exact kit_ty (r := true) (by decide +kernel) | exact kit_ty (r := false) (by decide +kernel)
theorem kit_vil (v : VF K C) (h : okV C d) : PySem.W.kitOne K (tyD d) (.ref C) = some (isVilD d) := by
  cases d with
  | ins C' fs l => cases h; show PySem.W.kitOne K (.ref C) (.ref C) = some true; unfold PySem.W.kitOne; rw [if_pos (by simp)]
  | non => exact v.oN
  | bl b => exact v.oB
  | int i => exact v.oI
  | str s => exact v.oS
  | lst l => exact v.oL
  | tup l => exact v.oT
  | dic k l => exact v.oD
/-- isinstance as values -/
theorem ev_list (v : VF K C) (h : okV C d) (e : Ev M te σ B d) : Ev M (tCB (rIsiT K) (tCons te (tCons (tTup (tCons (tC (.ty "list")) (tCons (tC (.ty "tuple")) tNil))) tNil))) σ B (.bl (isListD d)) := rc_isi2 (h.ok v) (kit_list v h) e
theorem ev_int' (v : VF K C) (h : okV C d) (e : Ev M te σ B d) : Ev M (tCB (rIsi K) (tCons te (tCons (tC (.ty "int")) tNil))) σ B (.bl (isIntD d)) := rc_isi (h.ok v) (kit_int v h) e
theorem ev_bool (v : VF K C) (h : okV C d) (e : Ev M te σ B d) : Ev M (tCB (rIsi K) (tCons te (tCons (tC (.ty "bool")) tNil))) σ B (.bl (isBoolD d)) := rc_isi (h.ok v) (kit_bool v h) e
theorem ev_str' (v : VF K C) (h : okV C d) (e : Ev M te σ B d) : Ev M (tCB (rIsi K) (tCons te (tCons (tC (.ty "str")) tNil))) σ B (.bl (isStrD d)) := rc_isi (h.ok v) (kit_str v h) e
theorem ev_dict' (v : VF K C) (h : okV C d) (e : Ev M te σ B d) : Ev M (tCB (rIsi K) (tCons te (tCons (tC (.ty "dict")) tNil))) σ B (.bl (isDictD d)) := rc_isi (h.ok v) (kit_dict v h) e
theorem ev_lst' (v : VF K C) (h : okV C d) (e : Ev M te σ B d) : Ev M (tCB (rIsi K) (tCons te (tCons (tC (.ty "list")) tNil))) σ B (.bl (isLstD d)) := rc_isi (h.ok v) (kit_lst v h) e
theorem ev_tup' (v : VF K C) (h : okV C d) (e : Ev M te σ B d) : Ev M (tCB (rIsi K) (tCons te (tCons (tC (.ty "tuple")) tNil))) σ B (.bl (isTupD d)) := rc_isi (h.ok v) (kit_tup v h) e
theorem ev_vil (v : VF K C) (h : okV C d) (e : Ev M te σ B d) : Ev M (tCB (rIsi K) (tCons te (tCons (tC (.ref C)) tNil))) σ B (.bl (isVilD d)) := rc_isiC (h.ok v) (kit_vil v h) e
/-- a < b < c -/
theorem ev_chain {r r' : R2} {ta tb tc : TE} {d1 d2 d3 : D} {a b : Bool} (h1 : Ev M ta σ B d1) (h2 : Ev M tb σ B d2) (hr : RV M r d1 d2 (.bl a)) (h3 : a = true → Ev M tc σ B d3 ∧ RV M r' d2 d3 (.bl b)) : Ev M (tChain r r' ta tb tc) σ B (.bl (a && b)) := fun F H Q W k =>
  h1 F H _ W fun x H1 g1 e1 => h2 F H1 _ (W.go g1) fun y H2 g2 e2 => hr F B H2 x y _ ((W.go g1).go g2) (e1.mono g2.le) e2 fun v H3 g3 e3 => ⟨a, e3, by
    cases a with
    | false => exact iteF (k _ H3 ((g1.trans g2).trans g3) rfl)
    | true => exact iteT ((h3 rfl).1 F H3 _ (((W.go g1).go g2).go g3) fun z H4 g4 e4 => (h3 rfl).2 F B H4 y z Q ((((W.go g1).go g2).go g3).go g4) (e2.mono (g3.trans g4).le) e4 fun u H5 g5 e5 => k u H5 ((((g1.trans g2).trans g3).trans g4).trans g5) e5)⟩
end
theorem ev_call1 {M : Md} {σ : L2.St} {B : Hp} {te : TE} {E : XK} {d r : D} {pre : D → Prop} {g : D → D} (h : Ev M te σ B d) (p : pre d) (e : g d = r) : Ev M (tCall (Sp1 pre g) [] E (tCons te tNil)) σ B r := by
  subst e
  exact ev_call (ea_cons h ea_nil) ⟨d, rfl, p⟩
theorem ev_call2 {M : Md} {σ : L2.St} {B : Hp} {te tf : TE} {E : XK} {d d' r : D} {pre : D → D → Prop} {g : D → D → D} (h : Ev M te σ B d) (h' : Ev M tf σ B d') (p : pre d d') (e : g d d' = r) : Ev M (tCall (Sp2 pre g) [] E (tCons te (tCons tf tNil))) σ B r := by
  subst e
  exact ev_call (ea_cons h (ea_cons h' ea_nil)) ⟨d, d', rfl, p⟩
theorem wd0 {F0 : List Addr} {H : Hp} (tr : ∀ b ∈ F0, ∃ o, H b = some o ∧ notT o = true) : Wd M0 F0 (Hd M0 F0 H) H := ⟨Ex.refl _, True.intro, tr⟩
theorem sp1_len {pre : D → Prop} {g : D → D} : ∀ (vs : List V) (H : Hp) (Q : VK) (E : XK), Sp1 pre g vs H Q E → vs.length = 1 := fun vs H Q E ⟨F, ds, _, h, ⟨d, e, _⟩, _⟩ => by
  rw [h.length, e]; rfl
theorem sp2_len {pre : D → D → Prop} {g : D → D → D} : ∀ (vs : List V) (H : Hp) (Q : VK) (E : XK), Sp2 pre g vs H Q E → vs.length = 2 := fun vs H Q E ⟨F, ds, _, h, ⟨d, e, z, _⟩, _⟩ => by
  rw [h.length, z]; rfl
section
variable {P : Program} {w : World} {K : PySem.W.Frag} {mg : Str → Option Value} {base : Heap} {f C : Addr} {fd : FuncData}
abbrev Sp_is_list (C : Addr) := Sp1 (okV C) fun d => .bl (isListD d)
theorem ok_is_list (F : Fun K "is_list" "is_list" s_is_list f fd) (N : Bn mg) (v : VF K C) : FnOk P w K mg base CX0 1 f fd ["thing"] (Sp_is_list C) := by
  refine F.ok sc_is_list sp1_len (fun cdv A outer s H vs Q E hr h => ?_)
  obtain ⟨F0, ds, tr, hd, ⟨d, rfl, p1⟩, k⟩ := h
  obtain ⟨x, rfl, hx⟩ := one_inv hd
  refine ⟨_, pss_one (ps_ret (pe_callB call_isiT (by rfl) N.isinstance (by decide +kernel) (pa_cons (pv 0) (pa_cons (pe_tup (pa_cons (pe_bltn (v := .ty "list") (by rfl) N.list (by decide +kernel) rfl) (pa_cons (pe_bltn (v := .ty "tuple") (by rfl) N.tuple (by decide +kernel) rfl) pa_nil))) pa_nil)))), ?_⟩
  exact r_ret (Rn.begin (wd0 tr)) (ev_list v p1 (ev_var rfl hx)) k
def wholeD : D → Bool
  | .int _ => true
  | _ => false
theorem whole_eq (d : D) : (isIntD d && !isBoolD d) = wholeD d := by cases d <;> rfl
abbrev Sp_is_whole (C : Addr) := Sp1 (okV C) fun d => .bl (wholeD d)
theorem ok_is_whole (F : Fun K "is_whole" "is_whole" s_is_whole f fd) (N : Bn mg) (v : VF K C) : FnOk P w K mg base CX0 1 f fd ["thing"] (Sp_is_whole C) := by
  refine F.ok sc_is_whole sp1_len (fun cdv A outer s H vs Q E hr h => ?_)
  obtain ⟨F0, ds, tr, hd, ⟨d, rfl, p1⟩, k⟩ := h
  obtain ⟨x, rfl, hx⟩ := one_inv hd
  refine ⟨_, pss_one (ps_ret (pe_and (pe_callB call_isi (by rfl) N.isinstance (by decide +kernel) (pa_cons (pv 0) (pa_cons (pe_bltn (v := .ty "int") (by rfl) N.int (by decide +kernel) rfl) pa_nil)))
    (pe_one (pe_not (pe_callB call_isi (by rfl) N.isinstance (by decide +kernel) (pa_cons (pv 0) (pa_cons (pe_bltn (v := .ty "bool") (by rfl) N.bool (by decide +kernel) rfl) pa_nil))))))), ?_⟩
  refine r_ret (d := .bl (wholeD d)) (Rn.begin (wd0 tr)) ?_ k
  rw [← whole_eq]
  exact ev_andV (ev_int' v p1 (ev_var rfl hx)) fun _ => ev_notV (ev_bool v p1 (ev_var rfl hx))
def numD : D → Bool
  | .int i => decide (0 ≤ i)
  | _ => false
abbrev Sp_is_number (C : Addr) := Sp1 (okV C) fun d => .bl (numD d)
theorem ok_is_number {a1 : Addr} (F : Fun K "is_number" "is_number" s_is_number f fd) (N : Bn mg) (v : VF K C) (g1 : mg "is_whole" = some (.ref a1)) (O1 : OkF P w K mg base 1 a1 ["thing"] (Sp_is_whole C)) : FnOk P w K mg base CX0 2 f fd ["thing"] (Sp_is_number C) := by
  refine F.ok sc_is_number sp1_len (fun cdv A outer s H vs Q E hr h => ?_)
  obtain ⟨F0, ds, tr, hd, ⟨d, rfl, p1⟩, k⟩ := h
  obtain ⟨x, rfl, hx⟩ := one_inv hd
  refine ⟨_, pss_one (ps_ret (pe_and (pe_c O1 hr g1 (pa_cons (pv 0) pa_nil)) (pe_one (pe_cmpR op_ge (pv 0) pe_int (nomark _))))), ?_⟩
  refine r_ret (d := .bl (numD d)) (Rn.begin (wd0 tr)) ?_ k
  refine ev_is (ev_andV (a := wholeD d) (b := numD d) (ev_call1 (ev_var rfl hx) p1 rfl) fun q => ?_) (by cases d <;> rfl)
  cases d <;> first | (cases q; done) | exact ev_op (ev_var rfl hx) ev_int (rv_I0 rfl)
end
end Pg

namespace Pg
open PySem PySem.Spec PyProof.Rows L2 DL RX
def letters : Str := "abcdefghijklmnopqrstuvwxyz"
/-! ### a village as a datum -/
structure Vl where
  ns : List Str
  ls : List (Str × Str)
def cnt (ls : List (Str × Str)) (a b : Str) : Int := ((ls.filter fun p => (p.1 = a ∧ p.2 = b) ∨ (p.1 = b ∧ p.2 = a)).length : Nat)
def nsD (V : Vl) : D := .lst (V.ns.map .str)
def rowB (ls : List (Str × Str)) (ns : List Str) (a : Str) : D := .dic (ns.map .inr) (ns.map fun b => .int (cnt ls a b))
def bwD (V : Vl) : D := .dic (V.ns.map .inr) (V.ns.map (rowB V.ls V.ns))
def vD (C : Addr) (V : Vl) : D := .ins C ["own_houses", "own_lanes", "own_between"] [nsD V, .lst (V.ls.map pD), bwD V]
theorem vD_ok {C : Addr} {V : Vl} : okV C (vD C V) := rfl
structure VlF (K : PySem.W.Frag) (C : Addr) : Prop where
  v : VF K C
  nH : NoAttr K C "own_houses"
  nL : NoAttr K C "own_lanes"
  nB : NoAttr K C "own_between"
section
variable {P : Program} {w : World} {K : PySem.W.Frag} {mg : Str → Option Value} {base : Heap} {f C : Addr} {fd : FuncData} {M : Md} {σ : L2.St} {B : Hp} {te : TE} {V : Vl} {d : D}
theorem ev_houses (T : VlF K C) (h : Ev M te σ B (vD C V)) : Ev M (tFld K te "own_houses") σ B (nsD V) := ev_fld T.v.ci.cl T.nH h (by
  have e1 : (("own_houses" : Str) == "own_houses") = true := by decide +kernel
  simp only [List.zip_cons_cons, List.lookup_cons, e1])
theorem ev_lanes (T : VlF K C) (h : Ev M te σ B (vD C V)) : Ev M (tFld K te "own_lanes") σ B (.lst (V.ls.map pD)) := ev_fld T.v.ci.cl T.nL h (by
  have e1 : (("own_lanes" : Str) == "own_houses") = false := by decide +kernel
  have e2 : (("own_lanes" : Str) == "own_lanes") = true := by decide +kernel
  simp only [List.zip_cons_cons, List.lookup_cons, e1, e2])
theorem ev_between (T : VlF K C) (h : Ev M te σ B (vD C V)) : Ev M (tFld K te "own_between") σ B (bwD V) := ev_fld T.v.ci.cl T.nB h (by
  have e1 : (("own_between" : Str) == "own_houses") = false := by decide +kernel
  have e2 : (("own_between" : Str) == "own_lanes") = false := by decide +kernel
  have e3 : (("own_between" : Str) == "own_between") = true := by decide +kernel
  simp only [List.zip_cons_cons, List.lookup_cons, e1, e2, e3])
/-! ### is_row -/
def lenD : D → Nat
  | .lst l => l.length
  | .tup l => l.length
  | .dic _ l => l.length
  | _ => 0
def iD : D → Int
  | .int i => i
  | _ => 0
def rowD (d : D) (m : Int) : Bool := isListD d && decide ((lenD d : Int) = m)
theorem sq_of_list (h : isListD d = true) : ∃ l, sq d = some l ∧ lenD d = l.length := by
  cases d <;> first | (cases h; done) | exact ⟨_, rfl, rfl⟩
abbrev Sp_is_row (C : Addr) := Sp2 (fun d m => okV C d ∧ ∃ n, m = .int n) fun d m => .bl (rowD d (iD m))
theorem ok_is_row {a1 : Addr} (F : Fun K "is_row" "is_row" s_is_row f fd) (N : Bn mg) (v : VF K C) (g1 : mg "is_list" = some (.ref a1)) (O1 : OkF P w K mg base 1 a1 ["thing"] (Sp_is_list C)) : FnOk P w K mg base CX0 2 f fd ["thing", "many"] (Sp_is_row C) := by
  refine F.ok sc_is_row sp2_len (fun cdv A outer s H vs Q E hr h => ?_)
  obtain ⟨F0, ds, tr, hd, ⟨d, m, rfl, p1, n, rfl⟩, k⟩ := h
  obtain ⟨x, y, rfl, hx, hy⟩ := two_inv hd
  refine ⟨_, pss_one (ps_ret (pe_and (pe_c O1 hr g1 (pa_cons (pv 0) pa_nil)) (pe_one (pe_cmpR op_eq (pe_callB call_len_seq (by rfl) N.len PySem.boot_len (pa_cons (pv 0) pa_nil)) (pv 1) (nomark _))))), ?_⟩
  refine r_ret (d := .bl (rowD d n)) (Rn.begin (wd0 tr)) ?_ k
  refine ev_andV (ev_call1 (ev_var rfl hx) p1 rfl) fun q => ?_
  obtain ⟨l, hs, hl⟩ := sq_of_list q
  rw [hl]
  exact ev_op (ev_cb (ea_cons (ev_var rfl hx) ea_nil) (rc_len hs)) (ev_var rfl hy) rv_eqI
/-! ### is_name -/
def isName (s : Str) : Bool := decide (0 < s.length ∧ s.length < 9) && s.cps.toList.all fun c => decide (c ∈ letters.cps.toList)
def nameD : D → Bool
  | .str s => isName s
  | _ => false
theorem str_len (s : Str) : s.cps.toList.length = s.length := Array.length_toList
abbrev Sp_is_name := Sp1 (fun d => ∃ s, d = .str s ∧ s.length ≤ sizeLine) fun d => .bl (nameD d)
theorem ok_is_name {t : Nat} (F : Fun K "is_name" "is_name" s_is_name f fd) (N : Bn mg) (gL : mg "LETTERS" = some (.str letters t)) (C : Addr) (v : VF K C) : FnOk P w K mg base CX0 1 f fd ["thing"] Sp_is_name := by
  refine F.ok sc_is_name sp1_len (fun cdv A outer s H vs Q E hr h => ?_)
  obtain ⟨F0, ds, tr, hd, ⟨_, rfl, s, rfl, hs⟩, k⟩ := h
  obtain ⟨x, rfl, hx⟩ := one_inv hd
  refine ⟨_, pss_one (ps_ret (pe_and (pe_callB call_isi (by rfl) N.isinstance (by decide +kernel) (pa_cons (pv 0) (pa_cons (pe_bltn (v := .ty "str") (by rfl) N.str (by decide +kernel) rfl) pa_nil)))
    (pe_and (pe_chain op_lt op_lt pe_int (pe_callB call_len_str (by rfl) N.len PySem.boot_len (pa_cons (pv 0) pa_nil)) pe_int)
    (pe_one (pe_callB (cr_all rfl) (by rfl) N.all (by decide +kernel) (pa_cons (pe_lc (own := [("sign", 1)]) (g := gName 1) (by rfl) sc_is_name.nd (pi_str (pv 0)) (blkOk_by (own := [("sign", 1)]) (N := ["thing", "sign"]) (sc := defScope s_is_name) (by decide +kernel))
      (fun _ _ _ _ _ => pg_name (i := 1) sc_is_name.nd rfl (Or.inl rfl)) (fun _ _ _ _ _ => pts_nil) (fun _ _ _ _ _ => pe_cmpR op_in_sign (pv 1) (pe_glob (v := .str letters) (by rfl) gL ⟨t, rfl⟩) (by rfl))) pa_nil)))))), ?_⟩
  refine r_ret (d := .bl (nameD (.str s))) (Rn.begin (wd0 tr)) ?_ k
  refine ev_is (ev_andV (a := true) (b := isName s) (ev_str' (C := C) v (show okV C (.str s) from trivial) (ev_var rfl hx)) fun _ => ?_) rfl
  refine ev_is (ev_andV (a := decide (0 < s.length ∧ s.length < 9)) (b := s.cps.toList.all fun c => decide (c ∈ letters.cps.toList)) ?_ fun q => ?_) rfl
  · refine ev_is (ev_chain (a := decide ((0 : Int) < (s.length : Nat))) (b := decide (((s.length : Nat) : Int) < 9)) ev_int (ev_cb (ea_cons (ev_var rfl hx) ea_nil) (d := .int (s.length : Nat)) ?_) (rv_I0 rfl) fun _ => ⟨ev_int, rv_I0 rfl⟩) ?_
    · intro F1 B1 H1 vs Q1 W e k1
      obtain ⟨y, rfl, hy⟩ := one_inv e
      have ey : y = .str s := hy
      exact ⟨s, by rw [ey], hs, k1 _ H1 (Go.refl W.i) rfl⟩
    · rw [← Bool.decide_and]
      congr 2
      simp
      omega
  · have q' := of_decide_eq_true q
    have hl : (signsD s).length < sizeLine := by
      rw [signsD, List.length_map, str_len]
      have : (9 : Nat) < sizeLine := by decide
      omega
    have hl' : s.cps.toList.length < sizeLine := by rw [signsD, List.length_map] at hl; exact hl
    refine ev_is (ev_cb (ea_cons (EvF.ev (ef_is (ef_lcmA (ys := s.cps.toList) (en := fun c => D.str ⟨#[c]⟩) (fun c => .bl (decide (c ∈ letters.cps.toList))) (ei_str (ev_var rfl hx)) hl' ?_) ?_)) ea_nil) (rc_all (bs := s.cps.toList.map fun c => decide (c ∈ letters.cps.toList)))) ?_
    · intro c hc
      refine turn_name (fun _ => rfl) fun B' x e dx => ⟨et_yes, fun _ => ?_⟩
      have ex : x = .str ⟨#[c]⟩ := dx
      subst ex
      refine ev_op (d1 := .str ⟨#[c]⟩) (d2 := .str letters) (ev_var rfl rfl) ev_str ?_
      exact rv_fl rfl rfl rfl fun H Q q => ⟨c, letters, rfl, rfl, q⟩
    · rw [List.map_map]; rfl
    · rw [List.all_map]; rfl
end
end Pg

/-! DL6: promises by a parameter. -/
namespace DL
open PySem PySem.Spec PyProof.Rows L2
section
variable {α : Type}
def SpQ (inp : α → List D) (pre : α → Prop) (f : α → D) : Sp := fun vs H Q _ => ∃ F a, (∀ b ∈ F, ∃ o, H b = some o ∧ notT o = true) ∧ DtL (Hd M0 F H) (inp a) vs ∧ pre a ∧
  ∀ v H', Go M0 F H H' → Dt (Hd M0 F H') (f a) v → Q v H'
def SpQF (inp : α → List D) (pre : α → Prop) (f : α → List D) : Sp := fun vs H Q _ => ∃ F a, (∀ b ∈ F, ∃ o, H b = some o ∧ notT o = true) ∧ DtL (Hd M0 F H) (inp a) vs ∧ pre a ∧
  ∀ p ws H', Fr H p → Go M0 F H H' → H' p = some (.lst ws) → DtL (Hd M0 (p :: F) H') (f a) ws → Q (.ref p) H'
def SpQG (inp : α → List D) (pre : α → Prop) (ks : α → List L2.Key) (f : α → List D) : Sp := fun vs H Q _ => ∃ F a, (∀ b ∈ F, ∃ o, H b = some o ∧ notT o = true) ∧ DtL (Hd M0 F H) (inp a) vs ∧ pre a ∧
  ∀ p es H', Fr H p → Go M0 F H H' → H' p = some (.dK es) → es.map (·.1) = ks a → DtL (Hd M0 (p :: F) H') (f a) (es.map (·.2)) → Q (.ref p) H'
def SpQR (inp : α → List D) (pre : α → Prop) (f : α → Res) : Sp := fun vs H Q E => ∃ F a, (∀ b ∈ F, ∃ o, H b = some o ∧ notT o = true) ∧ DtL (Hd M0 F H) (inp a) vs ∧ pre a ∧
  (∀ r, f a = .ok r → ∀ v H', Go M0 F H H' → Dt (Hd M0 F H') r v → Q v H') ∧
  (∀ C fl r, f a = .er C fl r → ∀ dx y H', Go M0 F H H' → H' dx = some (.xd [(fl, y)]) → Dt (Hd M0 F H') r y → E (.ref C) (some dx) H')
theorem SpQ.len {inp : α → List D} {pre : α → Prop} {f : α → D} {n : Nat} (h : ∀ a, (inp a).length = n) : ∀ (vs : List V) (H : Hp) (Q : VK) (E : XK), SpQ inp pre f vs H Q E → vs.length = n := fun vs H Q E ⟨F, a, _, d, _⟩ => by rw [d.length, h]
theorem SpQF.len {inp : α → List D} {pre : α → Prop} {f : α → List D} {n : Nat} (h : ∀ a, (inp a).length = n) : ∀ (vs : List V) (H : Hp) (Q : VK) (E : XK), SpQF inp pre f vs H Q E → vs.length = n := fun vs H Q E ⟨F, a, _, d, _⟩ => by rw [d.length, h]
theorem SpQG.len {inp : α → List D} {pre : α → Prop} {ks : α → List L2.Key} {f : α → List D} {n : Nat} (h : ∀ a, (inp a).length = n) : ∀ (vs : List V) (H : Hp) (Q : VK) (E : XK), SpQG inp pre ks f vs H Q E → vs.length = n := fun vs H Q E ⟨F, a, _, d, _⟩ => by rw [d.length, h]
theorem SpQR.len {inp : α → List D} {pre : α → Prop} {f : α → Res} {n : Nat} (h : ∀ a, (inp a).length = n) : ∀ (vs : List V) (H : Hp) (Q : VK) (E : XK), SpQR inp pre f vs H Q E → vs.length = n := fun vs H Q E ⟨F, a, _, d, _⟩ => by rw [d.length, h]
variable {M : Md} {F0 F : List Addr} {H0 H H' B B' : Hp} {d : D} {σ : L2.St} {te : TE} {tr : TA} {E : XK} {inp : α → List D} {pre : α → Prop}
theorem ev_callQ {f : α → D} (a : α) (h : EvA M tr σ B (inp a)) (p : pre a) : Ev M (tCall (SpQ inp pre f) [] E tr) σ B (f a) := fun F H Q W k =>
  h F H _ W fun vs H1 g e => by
    have W1 := W.go g
    refine ⟨M.S ++ F, a, app_tr W1, by rw [hd_app, List.append_nil]; exact e, p, fun v H' g' e' => ?_⟩
    rw [hd_app] at e'
    exact k v H' (g.trans (go_app W1 g')) e'
theorem ef_callQ {f : α → List D} (a : α) (h : EvA M tr σ B (inp a)) (p : pre a) : EvF M (tCall (SpQF inp pre f) [] E tr) σ B (f a) := fun F H Q W k =>
  h F H _ W fun vs H1 g e => by
    have W1 := W.go g
    refine ⟨M.S ++ F, a, app_tr W1, by rw [hd_app, List.append_nil]; exact e, p, fun q ws H' hq g' e1 e' => ?_⟩
    rw [hd_app_cons] at e'
    exact k q ws H' (W.back g hq) (g.trans (go_app W1 g')) e1 e'
theorem eg_callQ {f : α → List D} {ks : α → List L2.Key} (a : α) (h : EvA M tr σ B (inp a)) (p : pre a) : EvG M (tCall (SpQG inp pre ks f) [] E tr) σ B (ks a) (f a) := fun F H Q W k =>
  h F H _ W fun vs H1 g e => by
    have W1 := W.go g
    refine ⟨M.S ++ F, a, app_tr W1, by rw [hd_app, List.append_nil]; exact e, p, fun q ws H' hq g' e1 ek e' => ?_⟩
    rw [hd_app_cons] at e'
    exact k q ws H' (W.back g hq) (g.trans (go_app W1 g')) e1 ek e'
theorem ev_callQR {f : α → Res} (a : α) (h : EvA M tr σ B (inp a)) (p : pre a) (e : f a = .ok d) : Ev M (tCall (SpQR inp pre f) [] E tr) σ B d := fun F H Q W k =>
  h F H _ W fun vs H1 g1 hv => by
    have W1 := W.go g1
    refine ⟨M.S ++ F, a, app_tr W1, by rw [hd_app, List.append_nil]; exact hv, p, fun r er v H' g' e' => ?_, fun C fl r er => ?_⟩
    · rw [e] at er; cases er
      rw [hd_app] at e'
      exact k v H' (g1.trans (go_app W1 g')) e'
    · rw [e] at er; cases er
theorem r_callQR {f : α → Res} {C : Addr} {fl : Str} {Q : VK} (R : Rn M F0 H0 F B H) (a : α) (h : EvA M tr σ B (inp a)) (p : pre a) (e : f a = .er C fl d)
    (k : ∀ dx y H', Go M F0 H0 H' → H' dx = some (.xd [(fl, y)]) → Dt (Hd M F0 H') d y → E (.ref C) (some dx) H') : tCall (SpQR inp pre f) [] E tr σ H Q :=
  h F H _ R.w fun vs H1 g1 hv => by
    have W1 := R.w.go g1
    have R1 := R.step g1
    refine ⟨M.S ++ F, a, app_tr W1, by rw [hd_app, List.append_nil]; exact hv, p, fun r er => ?_, fun C' fl' r er dx y H' g' hx hy => ?_⟩
    · rw [e] at er; cases er
    · rw [e] at er; cases er
      have g2 := go_app W1 g'
      rw [hd_app] at hy
      exact k dx y H' (R1.step g2).go hx (hy.mono (hd_sub R.s).le)
end
section
variable {P : Program} {w : World} {K : PySem.W.Frag} {mg : Str → Option Value} {base : Heap}
structure OkX (P : Program) (w : World) (K : PySem.W.Frag) (mg : Str → Option Value) (base : Heap) (k : Nat) (f : Addr) (ps : List Str) (sp : Sp) : Prop where
  ex : ∃ fd, FnOk P w K mg base (L2.CX P w) k f fd ps sp ∧ Binds K fd ps []
  kp : PySem.W.keepIn K (.ref f) = true
theorem pe_cx {X : Cx} {W : WX} {E : XK} {k : Nat} {f : Addr} {ps : List Str} {sp : Sp} {x : Str} {p pos : Pos} {e : Expr} {es : List Expr} {t : TA} (O : OkX X.prog X.w X.K X.mg X.base k f ps sp) (hr : Room k X.A) (hm : X.mg x = some (.ref f)) (tk : Takes X W) (hW : ∀ cls d σ H, E cls d H → W cls d σ H)
    (ha : PA X (e :: es) t) (hg : Gl X x := by rfl) (hdb : (x == ("__debug__" : Str)) = false := by decide) (he : starEach (e :: es) X.env = (false, eval e X.env) :: starEach es X.env := by rfl) (hpl : (backTo pos (starEach es X.env)).any (·.1) = false := by rfl) : PE X (.Call (.Name x p) (e :: es) [] pos) (tCall sp [] E t) := by
  obtain ⟨⟨fd, G, b⟩, kp⟩ := O
  exact pe_call G hr hg hm kp b .nil (passes_call tk hW) ha hdb he hpl
end
end DL

/-! DL7: exact places, own dicts that grow. -/
namespace DL
open PySem PySem.Spec PyProof.Rows L2
section
variable {M : Md} {F0 F : List Addr} {H0 H H' B B' : Hp} {p : Addr} {d : D} {σ : L2.St} {te ty tv td tk : TE} {De : Ends} {tz : TS} {K : PySem.W.Frag} {v : V}
/-- evaluates to that very value -/
def At (M : Md) (te : TE) (σ : L2.St) (B : Hp) (v : V) : Prop := ∀ F H (Q : VK), Wd M F B H → (∀ H', Go M F H H' → Q v H') → te σ H Q
theorem At.var {i : Nat} (h : σ[i]? = some (some v)) : At M (tVar i) σ B v := fun F H Q W k => ⟨v, h, k H (Go.refl W.i)⟩
theorem At.fld {a C dx : Addr} {es : List (Str × V)} {f : Str} (c : Cls K C) (n : NoAttr K C f) (h : At M te σ B (.ref a)) (hb : B a = some (.ins C dx es)) (e : es.lookup f = some v) : At M (tFld K te f) σ B v := fun F H Q W k =>
  h F H _ W fun H1 g => ⟨a, C, dx, es, v, rfl, (hd_some.mp ((W.go g).e _ _ hb rfl)).2, c, n, e, k H1 g⟩
theorem At.dget {a : Addr} {es : List (L2.Key × V)} {q : L2.Key} (h : At M td σ B (.ref a)) (h2 : Ev M tk σ B (kD q)) (hb : Rd B a (.dK es)) (e : valV es q = some v) : At M (tDGet td tk) σ B v := fun F H Q W k =>
  h F H _ W fun H1 g => h2 F H1 _ (W.go g) fun w H2 g2 e2 => ⟨a, v, rfl, .inl ⟨es, q, hdR (Ex.rd rfl ((W.go g).go g2).e hb), kD_inv e2, e.symm⟩, k H2 (g.trans g2)⟩
/-- d[y] = e, d ours -/
theorem r_dput1 {i : Nat} {es : List (L2.Key × V)} {q : L2.Key} (R : Rn M F0 H0 F B H) (hp : p ∈ F) (hm : p ∉ M.S) (h0 : p ∉ F0) (hi : σ[i]? = some (some (.ref p))) (hv : H p = some (.dK es)) (hz : es.length < sizeLine) (h : Ev M tv σ B d) (hk : Ev M ty σ B (kD q))
    (k : ∀ v B' H', Ex B B' → Rn M F0 H0 F B' (upd H' p (.dK (putK es q v))) → (∀ b ∈ F, b ≠ p → H' b = H b) → Dt B' d v → De.nx σ (upd H' p (.dK (putK es q v)))) : sDPut (tVar i) ty tv De σ H :=
  r_ev (Q := fun v H1 => tVar i σ H1 fun x H2 => ty σ H2 fun y H3 => ∃ a H4, x = .ref a ∧ DPut H3 a y v H4 ∧ De.nx σ H4) R h fun v B' H' e g R1 dv =>
    ⟨_, hi, r_ev (Q := fun y H3 => ∃ a H4, V.ref p = .ref a ∧ DPut H3 a y v H4 ∧ De.nx σ H4) R1 (hk.up e) fun y B2 H2 e2 g2 R2 dy =>
      ⟨p, _, rfl, by rw [kD_inv dy]; exact DPut.k (by rw [g2.x p hp, g.x p hp]; exact hv) hz, k v B2 H2 (e.trans e2) (R2.put hp hm h0 rfl) (fun b hb _ => by rw [g2.x b hb, g.x b hb]) (dv.mono e2.le)⟩⟩
theorem r_dput {i : Nat} {es : List (L2.Key × V)} {q : L2.Key} (R : Rn M F0 H0 F B H) (hp : p ∈ F) (hm : p ∉ M.S) (h0 : p ∉ F0) (hi : σ[i]? = some (some (.ref p))) (hv : H p = some (.dK es)) (hz : es.length < sizeLine) (h : Ev M tv σ B d) (hk : Ev M ty σ B (kD q))
    (k : ∀ v B' H', Ex B B' → Rn M F0 H0 F B' (upd H' p (.dK (putK es q v))) → (∀ b ∈ F, b ≠ p → H' b = H b) → Dt B' d v → tz De σ (upd H' p (.dK (putK es q v)))) : tSeq (sDPut (tVar i) ty tv) tz De σ H :=
  r_dput1 (De := { De with nx := tz De }) R hp hm h0 hi hv hz h hk k
/-- the own dict is handed back -/
theorem r_retPG {i : Nat} {es : List (L2.Key × V)} {ks : List L2.Key} {ds : List D} (R : Rn M F0 H0 (p :: F) B H) (hi : σ[i]? = some (some (.ref p))) (h : H p = some (.dK es)) (hk : es.map (·.1) = ks) (hd : DtL B ds (es.map (·.2))) (f : Fr H0 p)
    (k : ∀ p es H', Fr H0 p → Go M F0 H0 H' → H' p = some (.dK es) → es.map (·.1) = ks → DtL (Hd M (p :: F0) H') ds (es.map (·.2)) → De.rt (.ref p) H') : tRet (tVar i) De σ H :=
  ⟨_, hi, k p es H f R.go h hk ((hd.mono R.w.e.le).mono (hd_sub fun b hb => by
    rcases List.mem_cons.mp hb with z | z
    · rw [z]; exact List.mem_cons_self
    · exact R.s b z).le)⟩
/-- a place that is new is not one of the old -/
theorem Rn.fr (R : Rn M F0 H0 F B H) (h : Fr H p) : Fr H0 p := by
  intro o q n
  have h1 := R.w.nS h
  by_cases h2 : p ∈ F0
  · exact h1.2 (R.s p h2)
  · exact h o (hd_some.mp (R.w.e p o (R.e0 p o (hd_some.mpr ⟨⟨h1.1, h2⟩, q⟩) n) n)).2 n
theorem r_setGN {i : Nat} {ks : List L2.Key} {ds : List D} (R : Rn M F0 H0 F B H) (h : EvG M te σ B ks ds)
    (k : ∀ p es B' H', Fr H0 p → Ex B B' → Go M F H H' → Rn M F0 H0 (p :: F) B' H' → p ∉ F → p ∉ M.S → p ∉ F0 → H' p = some (.dK es) → es.map (·.1) = ks → DtL B' ds (es.map (·.2)) → tz De (σ.set i (some (.ref p))) H') : tSeq (tAsg te (gName i)) tz De σ H :=
  h F H _ R.w fun p es H' f g e hk hd => by
    obtain ⟨r, x, n1, n2⟩ := R.own g f e rfl
    exact k p es _ H' (R.fr f) x g r n1 n2 (fun z => n1 (R.s p z)) e hk hd
theorem r_setFN {i : Nat} {ds : List D} (R : Rn M F0 H0 F B H) (h : EvF M te σ B ds)
    (k : ∀ p vs B' H', Fr H0 p → Ex B B' → Go M F H H' → Rn M F0 H0 (p :: F) B' H' → p ∉ F → p ∉ M.S → p ∉ F0 → H' p = some (.lst vs) → DtL B' ds vs → tz De (σ.set i (some (.ref p))) H') : tSeq (tAsg te (gName i)) tz De σ H :=
  h F H _ R.w fun p vs H' f g e hd => by
    obtain ⟨r, x, n1, n2⟩ := R.own g f e rfl
    exact k p vs _ H' (R.fr f) x g r n1 n2 (fun z => n1 (R.s p z)) e hd
theorem r_next {De : Ends} {σ : L2.St} {H : Hp} (h : De.nx σ H) : tNext De σ H := h
theorem map_take_snoc {α β : Type} {l : List α} {i : Nat} {a : α} (f : α → β) (h : l[i]? = some a) : (l.take (i + 1)).map f = (l.take i).map f ++ [f a] := by
  rw [List.take_succ, h]; simp
end
/-! ### a target that a list or a tuple goes to -/
def gOr (t u : TG) : TG := fun v σ H Q => t v σ H Q ∨ u v σ H Q
theorem pg_or {X : Cx} {e : Expr} {t u : TG} (h : PG X e t) (h' : PG X e u) : PG X e (gOr t u) := ⟨fun pins s σ H v w Q I r q => q.elim (fun q => h.run pins s σ H v w Q I r q) fun q => h'.run pins s σ H v w Q I r q⟩
def gSq (K : PySem.W.Frag) (n : Nat) (t : TGs) : TG := gOr (gTup K n t) (gUnl K n t)
section
variable {M : Md} {B : Hp} {d : D} {σ : L2.St} {K : PySem.W.Frag}
theorem tg_sq {n : Nat} {t : TGs} {ds : List D} {R : L2.St → Hp → Prop} (hs : sq d = some ds) (hn : ds.length = n) (h : Tgs M t σ B ds R) : Tg M (gSq K n t) σ B d R := fun F B' H v Q e W dv k => by
  obtain ⟨a, vs, rfl, ha, hl⟩ := sq_get hs dv
  rcases ha with ha | ha
  · exact .inr ⟨a, vs, rfl, SqL.of (hdL (W.e a _ ha rfl)), by rw [hl.length]; exact hn, h F B' H vs Q e W hl k⟩
  · exact .inl ⟨a, vs, rfl, SqT.of (hdT (W.e a _ ha rfl)), by rw [hl.length]; exact hn, h F B' H vs Q e W hl k⟩
end
end DL

namespace Pg
open PySem PySem.Spec PyProof.Rows L2 DL RX
structure VOk (V : Vl) : Prop where
  n0 : V.ns ≠ []
  n : V.ns.length ≤ 16
  nd : V.ns.Nodup
  nm : ∀ s ∈ V.ns, isName s = true
  l : V.ls.length ≤ 64
  le : ∀ p ∈ V.ls, p.1 ∈ V.ns ∧ p.2 ∈ V.ns ∧ p.1 ≠ p.2
abbrev EQ (Q : VK) : Ends := { nx := fun _ H' => Q .non H', rt := Q }
theorem small16 : (16 : Nat) < sizeLine := by decide
section
variable {P : Program} {w : World} {K : PySem.W.Frag} {mg : Str → Option Value} {base : Heap} {f C : Addr} {fd : FuncData} {M : Md} {σ : L2.St} {B : Hp} {te : TE} {V : Vl} {d : D}
/-! ### is_house -/
def houseD (V : Vl) : D → Bool
  | .str s => decide (s ∈ V.ns)
  | _ => false
abbrev inpVD (C : Addr) : Vl × D → List D := fun p => [vD C p.1, p.2]
abbrev Sp_is_house (C : Addr) := SpQ (inpVD C) (fun p => okV C p.2) fun p => .bl (houseD p.1 p.2)
theorem ok_is_house (F : Fun K "is_house" "is_house" s_is_house f fd) (N : Bn mg) (T : VlF K C) : FnOk P w K mg base CX0 1 f fd ["village", "thing"] (Sp_is_house C) := by
  refine F.ok sc_is_house (SpQ.len fun _ => rfl) (fun cdv A outer s H vs Q E hr h => ?_)
  obtain ⟨F0, ⟨V, d⟩, tr, hd, p1, k⟩ := h
  obtain ⟨x, y, rfl, hx, hy⟩ := two_inv hd
  refine ⟨_, pss_one (ps_ret (pe_and (pe_callB call_isi (by rfl) N.isinstance (by decide +kernel) (pa_cons (pv 1) (pa_cons (pe_bltn (v := .ty "str") (by rfl) N.str (by decide +kernel) rfl) pa_nil))) (pe_one (pe_cmpR op_in_seq (pv 1) (pe_fld (pv 0) rfl) (by rfl))))), ?_⟩
  refine r_ret (d := .bl (houseD V d)) (Rn.begin (wd0 tr)) ?_ k
  refine ev_is (ev_andV (a := isStrD d) (b := houseD V d) (ev_str' T.v p1 (ev_var rfl hy)) fun q => ?_) (by cases d <;> rfl)
  cases d <;> first | (cases q; done) | skip
  exact ev_op (ev_var rfl hy) (ev_houses T (ev_var rfl hx)) (rv_inS rfl)
/-! ### check_village -/
def chkV (CB : Addr) (d : D) : Res := if isVilD d = true then .ok .non else .er CB "village" d
abbrev Sp_check_village (C CB : Addr) := SpQR (α := D) (fun d => [d]) (fun d => okV C d) (chkV CB)
theorem ok_check_village {CB : Addr} (F : Fun K "check_village" "check_village" s_check_village f fd) (N : Bn mg) (v : VF K C) (gV : mg "Village" = some (.ref C)) (X1 : ExF P w K mg base "BadVillage" CB "village") : FnOk P w K mg base (L2.CX P w) 3 f fd ["village"] (Sp_check_village C CB) := by
  refine F.okX sc_check_village (SpQR.len fun _ => rfl) (fun cdv A outer s H vs Q E hr h => ?_)
  obtain ⟨F0, d, tr, hd, p1, k1, k2⟩ := h
  obtain ⟨x, rfl, hx⟩ := one_inv hd
  refine ⟨_, pss_one (ps_if (pt_not (pt_val (pe_callB call_isi (by rfl) N.isinstance (by decide +kernel) (pa_cons (pv 0) (pa_cons (pe_glob (v := .ref C) (by rfl) gV rfl) pa_nil))))) (pss_one (ps_rz rfl X1 hr (by decide) (takes_of rfl rfl rfl rfl) (pa_cons (pv 0) pa_nil))) pss_nil), ?_⟩
  refine r_if1 (Rn.begin (wd0 tr)) (et_not (et_val (ev_vil v p1 (ev_var rfl hx)))) (fun q B' H' e g R => ?_) (fun q B' H' e g R => ?_)
  · have q' : isVilD d = false := by simpa using q
    exact r_raise (W := fun cls d _ H => E cls d H) R (ev_var rfl (hx.mono e.le)) (k2 CB "village" d (by unfold chkV; rw [q']; rfl))
  · have q' : isVilD d = true := by simpa using q
    exact k1 .non (by unfold chkV; rw [q']; rfl) .non H' R.go rfl
/-! ### degree_of -/
def degI (V : Vl) (a : Str) : Int := (V.ns.map fun b => cnt V.ls a b).sum
theorem lk_map {ns : List Str} {g : Str → D} {a : Str} (h : a ∈ ns) : lk (ns.map .inr) (ns.map g) (.inr a) = some (g a) := by
  induction ns with
  | nil => cases h
  | cons b ns ih =>
    rw [List.map_cons, List.map_cons]
    unfold lk
    by_cases z : b = a
    · subst z; rw [if_pos rfl]
    · rw [if_neg (fun q => z (Sum.inr.inj q))]
      exact ih ((List.mem_cons.mp h).resolve_left fun q => z q.symm)
theorem lk_none {ns : List Str} {g : Str → D} {a : Str} (h : a ∉ ns) : lk (ns.map .inr) (ns.map g) (.inr a) = none := by
  induction ns with
  | nil => rfl
  | cons b ns ih =>
    rw [List.map_cons, List.map_cons]
    unfold lk
    have z : b ≠ a := fun z => h (by rw [z]; exact List.mem_cons_self)
    rw [if_neg (fun q => z (Sum.inr.inj q))]
    exact ih fun q => h (List.mem_cons_of_mem _ q)
abbrev inpVS (C : Addr) : Vl × Str → List D := fun p => [vD C p.1, .str p.2]
abbrev Sp_degree_of (C : Addr) := SpQ (inpVS C) (fun p => p.2 ∈ p.1.ns) fun p => .int (degI p.1 p.2)
theorem ev_row (T : VlF K C) {ta : TE} {a : Str} (h : Ev M te σ B (vD C V)) (h2 : Ev M ta σ B (.str a)) (ha : a ∈ V.ns) : Ev M (tDGet (tFld K te "own_between") ta) σ B (rowB V.ls V.ns a) :=
  ev_dget (q := .inr a) (ev_between T h) h2 (lk_map ha)
theorem ok_degree_of (F : Fun K "degree_of" "degree_of" s_degree_of f fd) (N : Bn mg) (T : VlF K C) : FnOk P w K mg base CX0 2 f fd ["village", "house"] (Sp_degree_of C) := by
  refine F.ok sc_degree_of (SpQ.len fun _ => rfl) (fun cdv A outer s H vs Q E hr h => ?_)
  obtain ⟨F0, ⟨V, a⟩, tr, hd, p1, k⟩ := h
  obtain ⟨x, y, rfl, hx, hy⟩ := two_inv hd
  have hu := hu_of hr
  refine ⟨_, pss_one (ps_ret (pe_callB (cr_sumV rfl) (by rfl) N.sum (by decide +kernel) (pa_cons (pe_dm0 PySem.F.slot_dict_values PySem.F.type_dict_values mt_values (pe_dget hu (pe_fld (pv 0) rfl) (pv 1) (fun _ _ => rfl))) pa_nil))), ?_⟩
  exact r_ret (d := .int (degI V a)) (Rn.begin (wd0 tr)) (ev_sumV (ns := V.ns.map fun b => cnt V.ls a b) (ev_is (ev_row T (ev_var rfl hx) (ev_var rfl hy) p1) (by unfold rowB; rw [List.map_map]; rfl))) k
/-! ### is_counts -/
def keyIn (V : Vl) : L2.Key → Bool
  | .inr s => decide (s ∈ V.ns)
  | .inl _ => false
theorem house_key (V : Vl) (q : L2.Key) : houseD V (kD q) = keyIn V q := by cases q <;> rfl
def countsD (V : Vl) : D → Bool
  | .dic ks l => decide (l.length = V.ns.length) && (ks.zip l).all fun p => keyIn V p.1 && wholeD p.2
  | _ => false
def okT (C : Addr) (d : D) : Prop := okV C d ∧ ∀ ks l, d = .dic ks l → ks.length = l.length ∧ ks.Nodup ∧ ∀ x ∈ l, okV C x
theorem kD_ok {C : Addr} (q : L2.Key) : okV C (kD q) := by cases q <;> trivial
abbrev Sp_is_counts (C : Addr) := SpQ (inpVD C) (fun p => VOk p.1 ∧ okT C p.2) fun p => .bl (countsD p.1 p.2)
theorem ok_is_counts {a1 a2 : Addr} (F : Fun K "is_counts" "is_counts" s_is_counts f fd) (N : Bn mg) (T : VlF K C) (g1 : mg "is_house" = some (.ref a1)) (O1 : OkF P w K mg base 1 a1 ["village", "thing"] (Sp_is_house C)) (g2 : mg "is_whole" = some (.ref a2)) (O2 : OkF P w K mg base 1 a2 ["thing"] (Sp_is_whole C)) : FnOk P w K mg base CX0 2 f fd ["village", "thing"] (Sp_is_counts C) := by
  refine F.ok sc_is_counts (SpQ.len fun _ => rfl) (fun cdv A outer s H vs Q E hr h => ?_)
  obtain ⟨F0, ⟨V, d⟩, tr, hd, ⟨pV, p1, p2⟩, k⟩ := h
  obtain ⟨x, y, rfl, hx, hy⟩ := two_inv hd
  refine ⟨_, pss_cons (ps_if (pw_or (pt_not (pt_val (pe_callB call_isi (by rfl) N.isinstance (by decide +kernel) (pa_cons (pv 1) (pa_cons (pe_bltn (v := .ty "dict") (by rfl) N.dict (by decide +kernel) rfl) pa_nil))))) (pw_or1 (pt_cmpR op_ne (pe_callB call_lenR (by rfl) N.len PySem.boot_len (pa_cons (pv 1) pa_nil)) (pe_callB call_len_seq (by rfl) N.len PySem.boot_len (pa_cons (pe_fld (pv 0) rfl) pa_nil)) (nomark _)))).pt (pss_one (ps_ret pe_bl)) pss_nil)
    (pss_one (ps_ret (pe_lockR (pe_callB (cr_all rfl) (by rfl) N.all (by decide +kernel) (pa_cons (pe_lc (own := [("house", 2), ("number", 3)]) (g := gTup K 2 (gCons (gName 2) (gCons (gName 3) gNil))) (by rfl) sc_is_counts.nd (pi_items (pv 1)) (blkOk_by (own := [("house", 2), ("number", 3)]) (N := ["village", "thing", "house", "number"]) (sc := defScope s_is_counts) (by decide +kernel)) (fun _ _ _ _ _ => by exact pg_tup (by rfl) (pgs_cons (pg_name (i := 2) sc_is_counts.nd rfl (Or.inl rfl)) (pgs_cons (pg_name (i := 3) sc_is_counts.nd rfl (Or.inl rfl)) pgs_nil))) (fun _ _ _ _ _ => pts_nil) (fun _ _ _ _ _ => (pe_and (pe_c O1 hr g1 (pa_cons (pv 0) (pa_cons (pv 2) pa_nil))) (pe_one (pe_c O2 hr g2 (pa_cons (pv 3) pa_nil)))))) pa_nil))))), ?_⟩
  have L : ∀ (n : Nat), d ≠ .non → True := fun _ _ => trivial
  refine r_if (b := !isDictD d || !decide ((lenD d : Int) = (V.ns.length : Nat))) (Rn.begin (wd0 tr)) (et_or (et_not (et_val (ev_dict' T.v p1 (ev_var rfl hy)))) fun q => ?_) (fun q B' H' e g R => ?_) (fun q B' H' e g R => ?_)
  · cases d <;> first | (cases q; done) | skip
    refine et_cmp (ev_op (ev_cb (ea_cons (ev_var rfl hy) ea_nil) rc_lenD) (ev_cb (ea_cons (ev_houses T (ev_var rfl hx)) ea_nil) (rc_len rfl)) ?_)
    rw [List.length_map]
    exact rv_neI
  · refine r_ret R ev_bl fun v H2 g2 h2 => k v H2 g2 (?_ : Dt _ (.bl (countsD V d)) v)
    have e2 : countsD V d = false := by
      cases d <;> first | rfl | skip
      rename_i ks l
      have q' : ¬ (l.length = V.ns.length) := by
        intro z
        simp [isDictD, lenD, z] at q
      simp [countsD, q']
    rw [e2]; exact h2
  · cases d <;> first | (simp [isDictD] at q; done) | skip
    rename_i ks l
    have q' : l.length = V.ns.length := by
      simp [isDictD, lenD] at q
      have := of_decide_eq_true q
      omega
    have hn : V.ns.length ≤ 16 := pV.n
    have hkl := (p2 ks l rfl).1
    refine r_next ?_
    dsimp only
    refine r_ret (d := .bl (countsD V (.dic ks l))) R ?_ k
    obtain ⟨a, es, ea, _⟩ := dic_inv hy
    subst ea
    refine ev_lockR (hy.mono e.le) fun B2 es le ek hl lkd => ?_
    have hx2 : Dt B2 (vD C V) x := (hx.mono e.le).mono le
    refine ev_is (ev_cb (ea_cons (EvF.ev (ef_is (ef_lcmA (ys := ks.zip l) (en := fun p => D.tup [kD p.1, p.2]) (fun p => .bl (keyIn V p.1 && wholeD p.2)) ?_ ?_ ?_) ?_)) ea_nil) (rc_all (bs := (ks.zip l).map fun p => keyIn V p.1 && wholeD p.2))) ?_
    · have := ei_items (M := M0) (td := tVar 1) (σ := L2.start ["village", "thing", "house", "number"] [x, .ref a]) (at_var rfl) hl lkd
      rw [ek] at this
      exact this
    · rw [List.length_zip, hkl, Nat.min_self]
      have := small16
      rw [q']
      omega
    · intro p hp
      refine turn_tg (tg_tup rfl (tgs_cons (tg_name fun B3 v3 e3 d3 => tgs_cons (tg_name fun B4 v4 e4 d4 => tgs_nil fun B5 e5 => ⟨rfl, et_yes, fun _ => ?_⟩))))
      have hm := List.of_mem_zip hp
      have ok2 := (p2 ks l rfl).2.2 p.2 hm.2
      have d3' : Dt B5 (kD p.1) v3 := (d3.mono e4.le).mono e5.le
      have d4' : Dt B5 p.2 v4 := d4.mono e5.le
      refine ev_andV (ev_is (ev_callQ (inp := inpVD C) (V, kD p.1) (ea_cons (ev_var rfl (((hx2.mono e3.le).mono e4.le).mono e5.le)) (ea_cons (ev_var rfl d3') ea_nil)) (kD_ok _)) (by rw [house_key])) fun _ => ev_call1 (ev_var rfl d4') ok2 rfl
    · rw [List.map_map]; rfl
    · rw [List.all_map, countsD, q']; simp
/-! ### check_purse -/
def chkP (CB CP : Addr) (p : D × D) : Res := if isVilD p.1 = true then .er CP "purse" p.2 else .er CB "village" p.1
abbrev Sp_check_purse (C CB CP : Addr) := SpQR (α := D × D) (fun p => [p.1, p.2]) (fun p => okV C p.1 ∧ okT C p.2 ∧ (isVilD p.1 = true → ∃ V, p.1 = vD C V ∧ VOk V ∧ countsD V p.2 = false)) (chkP CB CP)
theorem ok_check_purse {CB CP a1 a2 : Addr} (F : Fun K "check_purse" "check_purse" s_check_purse f fd) (N : Bn mg) (T : VlF K C) (g1 : mg "check_village" = some (.ref a1)) (O1 : OkX P w K mg base 3 a1 ["village"] (Sp_check_village C CB)) (X2 : ExF P w K mg base "BadPurse" CP "purse")
    (g2 : mg "is_counts" = some (.ref a2)) (O2 : OkF P w K mg base 2 a2 ["village", "thing"] (Sp_is_counts C)) : FnOk P w K mg base (L2.CX P w) 4 f fd ["village", "purse"] (Sp_check_purse C CB CP) := by
  refine F.okX sc_check_purse (SpQR.len fun _ => rfl) (fun cdv A outer s H vs Q E hr h => ?_)
  obtain ⟨F0, ⟨d, p⟩, tr, hd, ⟨p1, p2, p3⟩, k1, k2⟩ := h
  obtain ⟨x, y, rfl, hx, hy⟩ := two_inv hd
  refine ⟨_, pss_cons (ps_expr (pe_cx (E := E) O1 hr g1 (takes_of rfl rfl rfl rfl) (fun _ _ _ _ h => h) (pa_cons (pv 0) pa_nil)))
    (pss_one (ps_if (pt_not (pt_val (pe_c O2 (hr.mono (by decide)) g2 (pa_cons (pv 0) (pa_cons (pv 1) pa_nil))))) (pss_one (ps_rz rfl X2 hr (by decide) (takes_of rfl rfl rfl rfl) (pa_cons (pv 1) pa_nil))) pss_nil)), ?_⟩
  cases q : isVilD d with
  | false =>
    exact r_callQR (Rn.begin (wd0 tr)) d (ea_cons (ev_var rfl hx) ea_nil) p1 (show chkV CB d = .er CB "village" d by unfold chkV; rw [q]; rfl) (k2 CB "village" d (by unfold chkP; rw [q]; rfl))
  | true =>
    obtain ⟨V, rfl, pV, pc⟩ := p3 q
    refine r_drop (Rn.begin (wd0 tr)) (ev_callQR (vD C V) (ea_cons (ev_var rfl hx) ea_nil) p1 (show chkV CB (vD C V) = .ok .non from rfl)) fun B1 H1 e1 g1 R1 => ?_
    refine r_if1 (b := true) R1 (et_is (et_not (et_val (ev_callQ (inp := inpVD C) (V, p) (ea_cons (ev_var rfl (hx.mono e1.le)) (ea_cons (ev_var rfl (hy.mono e1.le)) ea_nil)) ⟨pV, p2⟩))) (by rw [pc]; rfl)) (fun q B' H' e g R => ?_) (fun q => by cases q)
    exact r_raise (W := fun cls d _ H => E cls d H) R (ev_var rfl ((hy.mono e1.le).mono e.le)) (k2 CP "purse" p rfl)
end
end Pg

namespace Pg
open PySem PySem.Spec PyProof.Rows L2 DL RX
section
variable {P : Program} {w : World} {K : PySem.W.Frag} {mg : Str → Option Value} {base : Heap} {f C : Addr} {fd : FuncData} {M : Md} {σ : L2.St} {B : Hp} {te : TE} {V : Vl} {d : D}
/-- a dict whose values at the houses are known ints -/
def DF (V : Vl) (g : Str → Int) (d : D) : Prop := ∃ ks l, d = .dic ks l ∧ ∀ a ∈ V.ns, lk ks l (.inr a) = some (.int (g a))
theorem ev_df {td tk : TE} {g : Str → Int} {a : Str} (h : DF V g d) (h1 : Ev M td σ B d) (h2 : Ev M tk σ B (.str a)) (ha : a ∈ V.ns) : Ev M (tDGet td tk) σ B (.int (g a)) := by
  obtain ⟨ks, l, rfl, e⟩ := h
  exact ev_dget (q := .inr a) h1 h2 (e a ha)
theorem df_mk {g : Str → Int} : DF V g (.dic (V.ns.map .inr) (V.ns.map fun a => .int (g a))) := ⟨_, _, rfl, fun a ha => lk_map ha⟩
theorem valV_map {es : List (L2.Key × L2.V)} {ns : List Str} {g : Str → D} {H : Hp} {a : Str} (hk : es.map (·.1) = ns.map .inr) (hl : DtL H (ns.map g) (es.map (·.2))) (ha : a ∈ ns) : ∃ v, valV es (.inr a) = some v ∧ Dt H (g a) v := by
  have := (valV_lk (q := .inr a) hl).1 (g a) (by rw [hk]; exact lk_map ha)
  exact this
/-- the row of a house: where it stands -/
theorem row_at (T : VlF K C) {x : L2.V} {a : Str} {i : Nat} {tk : TE} (hx : Dt B (vD C V) x) (ha : a ∈ V.ns) (hi : σ[i]? = some (some x)) :
    ∃ r, Dt B (rowB V.ls V.ns a) (.ref r) ∧ ∀ B', Le B B' → Ev M tk σ B' (.str a) → At M (tDGet (tFld K (tVar i) "own_between") tk) σ B' (.ref r) := by
  obtain ⟨p, dx, es, rfl, hp, hf, hl⟩ := ins_inv hx
  have e1 : (("own_between" : Str) == "own_houses") = false := by decide +kernel
  have e2 : (("own_between" : Str) == "own_lanes") = false := by decide +kernel
  have e3 : (("own_between" : Str) == "own_between") = true := by decide +kernel
  obtain ⟨bv, hb, db⟩ := lookup_zip (f := "own_between") (d := bwD V) hl (by rw [hf]; simp only [List.zip_cons_cons, List.lookup_cons, e1, e2, e3])
  obtain ⟨b, bs, rfl, hr, hk, hl2⟩ := dic_inv db
  obtain ⟨v, hv, dv⟩ := valV_map hk hl2 ha
  obtain ⟨r, rs, rfl, _⟩ := dic_inv dv
  exact ⟨r, dv, fun B' le hk' => At.dget (q := .inr a) (At.fld T.v.ci.cl T.nB (At.var hi) (le.o _ _ rfl hp) hb) hk' (le.d _ _ hr) hv⟩
theorem cnt_le (ls : List (Str × Str)) (a b : Str) : 0 ≤ cnt ls a b ∧ cnt ls a b ≤ (ls.length : Nat) := by
  unfold cnt
  have := List.length_filter_le (fun p : Str × Str => decide ((p.1 = a ∧ p.2 = b) ∨ (p.1 = b ∧ p.2 = a))) ls
  omega
theorem sum_le {l : List Int} {c : Int} (h : ∀ x ∈ l, 0 ≤ x ∧ x ≤ c) : 0 ≤ l.sum ∧ l.sum ≤ (l.length : Int) * c := by
  induction l with
  | nil => simp
  | cons a l ih =>
    have h1 := h a List.mem_cons_self
    have h2 := ih fun x hx => h x (List.mem_cons_of_mem _ hx)
    rw [List.sum_cons, List.length_cons]
    have : ((l.length + 1 : Nat) : Int) * c = (l.length : Int) * c + c := by
      rw [Int.natCast_add, Int.add_mul]; simp
    omega
theorem deg_le (h : VOk V) (a : Str) : 0 ≤ degI V a ∧ degI V a ≤ 1024 := by
  unfold degI
  have h1 := sum_le (l := V.ns.map fun b => cnt V.ls a b) (c := 64) (fun x hx => by
    obtain ⟨b, hb, rfl⟩ := List.mem_map.mp hx
    have := cnt_le V.ls a b
    have := h.l
    omega)
  rw [List.length_map] at h1
  have := h.n
  omega
theorem pow64 : (2 : Int) ^ 64 = 18446744073709551616 := by decide
/-! ### behind -/
structure Beh where
  V : Vl
  p : D
  s : D
  g : Str → Int
  h : Str → Int
def behI (V : Vl) (g h : Str → Int) (a : Str) : Int := g a - degI V a * h a + (V.ns.map fun b => cnt V.ls a b * h b).sum
abbrev Sp_behind (C : Addr) := SpQG (α := Beh) (fun b => [vD C b.V, b.p, b.s]) (fun b => VOk b.V ∧ DF b.V b.g b.p ∧ DF b.V b.h b.s) (fun b => b.V.ns.map .inr) fun b => b.V.ns.map fun a => .int (behI b.V b.g b.h a)
theorem three_inv {H : Hp} {d1 d2 d3 : D} {vs : List L2.V} (h : DtL H [d1, d2, d3] vs) : ∃ v w z, vs = [v, w, z] ∧ Dt H d1 v ∧ Dt H d2 w ∧ Dt H d3 z := by
  obtain ⟨v, r, e, p, q⟩ := DtL.cons_inv h
  obtain ⟨w, z, e2, q2, q3⟩ := two_inv q
  subst e2
  exact ⟨v, w, z, e, p, q2, q3⟩
abbrev N_behind : List Str := ["village", "purse", "script", "found", "house", "got", "other", "lanes"]
theorem ok_behind {a1 : Addr} (F : Fun K "behind" "behind" s_behind f fd) (N : Bn mg) (T : VlF K C) (g1 : mg "degree_of" = some (.ref a1)) (O1 : OkF P w K mg base 2 a1 ["village", "house"] (Sp_degree_of C)) : FnOk P w K mg base CX0 3 f fd ["village", "purse", "script"] (Sp_behind C) := by
  refine F.ok sc_behind (SpQG.len fun _ => rfl) (fun cdv A outer s H vs Q E hr h => ?_)
  obtain ⟨F0, ⟨V, p, sc, g, h⟩, tr, hd, ⟨pV, dp, ds⟩, k⟩ := h
  obtain ⟨x, y, z, rfl, hx, hy, hz⟩ := three_inv hd
  have hu := hu_of hr
  refine ⟨_, pss_cons (ps_set (i := 3) sc_behind.nd rfl (Or.inl rfl) pe_dnewK)
    (pss_cons (ps_for PassesOwn.never rfl (pi_list (pe_fld (pv 0) rfl)) (pg_name (i := 4) sc_behind.nd rfl (Or.inl rfl))
      (pss_cons (ps_set (i := 5) sc_behind.nd rfl (Or.inl rfl) (pe_lockR (pe_callB (cr_sum rfl) (by rfl) N.sum (by decide +kernel) (pa_cons (pe_lc (own := [("other", 6), ("lanes", 7)]) (g := gTup K 2 (gCons (gName 6) (gCons (gName 7) gNil))) (by rfl) sc_behind.nd (pi_items (pe_dget hu (pe_fld (pv 0) rfl) (pv 4) (fun _ _ => rfl))) (blkOk_by (own := [("other", 6), ("lanes", 7)]) (N := N_behind) (sc := defScope s_behind) (by decide +kernel)) (fun _ _ _ _ _ => by exact pg_tup (by rfl) (pgs_cons (pg_name (i := 6) sc_behind.nd rfl (Or.inl rfl)) (pgs_cons (pg_name (i := 7) sc_behind.nd rfl (Or.inl rfl)) pgs_nil))) (fun _ _ _ _ _ => pts_nil) (fun _ _ _ _ _ => (pe_op op_mul (pv 7) (pe_dget hu (pv 2) (pv 6) (fun _ _ => rfl))))) pa_nil))))
      (pss_one (ps_dput hu (pv 3) (pv 4) (pe_op op_add (pe_op op_sub (pe_dget hu (pv 1) (pv 4) (fun _ _ => rfl)) (pe_op op_mul (pe_c O1 hr g1 (pa_cons (pv 0) (pa_cons (pv 4) pa_nil))) (pe_dget hu (pv 2) (pv 4) (fun _ _ => rfl)))) (pv 5)) rfl))))
    (pss_one (ps_ret (pv 3)))), ?_⟩
  have pV : VOk V := pV
  have hn : V.ns.length ≤ 16 := pV.n
  have h16 := small16
  refine r_setGN (Rn.begin (wd0 tr)) eg_dict0 fun q es B1 H1 fq e1 g1' R1 nF nS nF0 hq hk hl => ?_
  refine r_for R1 (ei_list (ev_houses T (ev_var rfl (hx.mono e1.le)))) (fun i σ B' H' => ∃ es v4 v5, σ = [some x, some y, some z, some (.ref q), v4, v5, none, none] ∧ Rn M0 F0 H (q :: F0) B' H' ∧ H' q = some (.dK es) ∧ es.map (·.1) = (V.ns.take i).map .inr ∧ DtL B' ((V.ns.take i).map fun a => .int (behI V g h a)) (es.map (·.2)))
    (fun i σ B' H' ⟨_, _, _, _, R, _⟩ => R) (fun B' H' e g2 R => ⟨es, none, none, rfl, R, by rw [g2.x q List.mem_cons_self]; exact hq, hk, hl.mono e.le⟩) ?_ ?_
  · rintro i d v σ' Bb B1' H1' B2 H2 eb eb1 hd' ⟨es', v4, v5, rfl, Ri, hq', hk', hl'⟩ e2 g2 R2 dv
    obtain ⟨a, ha, rfl⟩ := List.mem_map.mp (List.mem_of_getElem? hd')
    have hda : V.ns[i]? = some a := by
      rw [List.getElem?_map] at hd'
      obtain ⟨b, hb, e⟩ := Option.map_eq_some_iff.mp hd'
      cases e; exact hb
    have ev : v = .str a := dv
    subst ev
    have ex2 : Ex (Hd M0 F0 H) B2 := ((e1.trans eb).trans eb1).trans e2
    have hx2 := hx.mono ex2.le
    have hy2 := hy.mono ex2.le
    have hz2 := hz.mono ex2.le
    have gint : ∀ (j : Nat) (w : L2.V), True := fun _ _ => trivial
    refine r_set (d := .int (V.ns.map fun b => cnt V.ls a b * h b).sum) R2 ?_ fun v5' B3 H3 e3 g3 R3 d5 => ?_
    · obtain ⟨r, dr, ar⟩ := row_at (σ := [some x, some y, some z, some (.ref q), some (.str a), v5, none, none]) (i := 0) (tk := tVar 4) T hx2 ha rfl
      refine ev_lockR dr fun B4 rs le ek hlr lkd => ?_
      refine ev_cb (ea_cons (EvF.ev (ef_is (ef_lcmA (ys := V.ns) (en := fun b => D.tup [.str b, .int (cnt V.ls a b)]) (fun b => .int (cnt V.ls a b * h b)) ?_ (by omega) ?_) ?_)) ea_nil) (rc_sum (bs := V.ns.map fun b => cnt V.ls a b * h b))
      · have := ei_items (M := M0) (ar B4 le (ev_var rfl rfl)) hlr lkd
        rw [ek] at this
        have e : itemsD (V.ns.map Sum.inr) (V.ns.map fun b => D.int (cnt V.ls a b)) = V.ns.map fun b => D.tup [.str b, .int (cnt V.ls a b)] := by
          unfold itemsD
          rw [List.zip_map', List.map_map]; rfl
        rw [e] at this
        exact this
      · intro b hb
        refine turn_tg (tg_tup rfl (tgs_cons (tg_name fun B5 v6 e5 d6 => tgs_cons (tg_name fun B6 v7 e6 d7 => tgs_nil fun B7 e7 => ⟨rfl, et_yes, fun _ => ?_⟩))))
        have le7 := ((le.trans e5.le).trans e6.le).trans e7.le
        have c := cnt_le V.ls a b
        have c2 := pV.l
        exact ev_op (ev_var rfl (d7.mono e7.le)) (ev_df ds (ev_var rfl (hz2.mono le7)) (ev_var rfl ((d6.mono e6.le).mono e7.le)) hb) (rv_I rfl (.inl ⟨by rw [pow64]; omega, by rw [pow64]; omega⟩))
      · rw [List.map_map]; rfl
    · have hq3 : H3 q = some (.dK es') := by rw [g3.x q List.mem_cons_self, g2.x q List.mem_cons_self]; exact hq'
      have hlen : es'.length ≤ V.ns.length := by
        have := congrArg List.length hk'
        rw [List.length_map, List.length_map, List.length_take] at this
        omega
      have dg := deg_le pV a
      refine r_dput1 (d := .int (behI V g h a)) (q := .inr a) R3 List.mem_cons_self nS nF0 rfl hq3 (by omega) ?_ (ev_var rfl (rfl : Dt B3 (.str a) (.str a))) fun v B4 H4 e4 R4 hb4 dv4 => ?_
      · refine ev_op (ev_op (ev_df dp (ev_var rfl (hy2.mono e3.le)) (ev_var rfl rfl) ha) (ev_op (ev_callQ (inp := inpVS C) (V, a) (ea_cons (ev_var rfl (hx2.mono e3.le)) (ea_cons (ev_var rfl rfl) ea_nil)) ha) (ev_df ds (ev_var rfl (hz2.mono e3.le)) (ev_var rfl rfl) ha) (rv_I (z := .int (degI V a * h a)) rfl (.inl ⟨by rw [pow64]; show _ < degI V a; omega, by rw [pow64]; show degI V a < _; omega⟩))) (rv_I0 rfl)) (ev_var rfl d5) (rv_I0 rfl)
      · have hnew : (.inr a : L2.Key) ∉ es'.map (·.1) := by
          rw [hk']
          intro hm
          obtain ⟨b, hb, e⟩ := List.mem_map.mp hm
          cases e
          have nd := pV.nd.sublist (List.take_sublist (i + 1) V.ns)
          rw [List.take_succ, hda, List.nodup_append] at nd
          exact nd.2.2 _ hb _ (by simp) rfl
        rw [DL.putK_new hnew] at R4 ⊢
        refine ⟨B4, ((eb1.trans e2).trans e3).trans e4, es' ++ [(.inr a, v)], some (.str a), some v5', rfl, R4, upd_same, ?_, ?_⟩
        · rw [map_take_snoc _ hda, List.map_append, hk']; rfl
        · rw [map_take_snoc _ hda, List.map_append]
          exact DtL.append (((hl'.mono e2.le).mono e3.le).mono e4.le) (DtL.cons dv4 DtL.nil)
  · rintro σ' B' H' e ⟨es', v4, v5, rfl, Ri, hq', hk', hl'⟩
    rw [List.length_map, List.take_length] at hk' hl'
    exact r_retPG Ri rfl hq' hk' hl' fq k
end
end Pg

namespace Pg
open PySem PySem.Spec PyProof.Rows L2 DL RX
theorem nodup_sub_len {α : Type} [DecidableEq α] : ∀ {l m : List α}, l.Nodup → (∀ x ∈ l, x ∈ m) → l.length ≤ m.length
  | [], m, _, _ => Nat.zero_le _
  | a :: l, m, hd, hs => by
    have ha : a ∈ m := hs a List.mem_cons_self
    have hd' := List.nodup_cons.mp hd
    have h := nodup_sub_len (l := l) (m := m.erase a) hd'.2 fun x hx => (List.mem_erase_of_ne (fun z => hd'.1 (by rw [← z]; exact hx))).mpr (hs x (List.mem_cons_of_mem _ hx))
    rw [List.length_erase_of_mem ha] at h
    have : 0 < m.length := List.length_pos_of_mem ha
    rw [List.length_cons]
    omega
theorem nodup_sub_eq {α : Type} [DecidableEq α] {l m : List α} (hd : l.Nodup) (hs : ∀ x ∈ l, x ∈ m) (hl : m.length ≤ l.length) : ∀ x ∈ m, x ∈ l := fun x hx => by
  by_cases h : x ∈ l
  · exact h
  · exfalso
    have h1 := nodup_sub_len (m := m.erase x) hd fun y hy => (List.mem_erase_of_ne (fun z => h (by rw [← z]; exact hy))).mpr (hs y hy)
    rw [List.length_erase_of_mem hx] at h1
    have : 0 < m.length := List.length_pos_of_mem hx
    omega
theorem nodup_inr {l : List Str} (h : l.Nodup) : (l.map (Sum.inr : Str → L2.Key)).Nodup := List.Pairwise.map _ (fun a b n e => n (Sum.inr.inj e)) h
def lkI (ks : List L2.Key) (l : List D) (a : Str) : Int := match lk ks l (.inr a) with
  | some (.int i) => i
  | _ => 0
theorem lk_some : ∀ {ks : List L2.Key} {l : List D} {q : L2.Key}, ks.length = l.length → q ∈ ks → ∃ d, lk ks l q = some d ∧ (q, d) ∈ ks.zip l
  | [], _, q, _, h => by cases h
  | k :: ks, [], q, e, _ => by cases e
  | k :: ks, d :: l, q, e, h => by
    unfold lk
    by_cases z : k = q
    · subst z
      exact ⟨d, if_pos rfl, by simp⟩
    · rw [if_neg z]
      obtain ⟨d', h1, h2⟩ := lk_some (ks := ks) (l := l) (q := q) (by simpa using e) ((List.mem_cons.mp h).resolve_left fun q => z q.symm)
      exact ⟨d', h1, List.mem_cons_of_mem _ h2⟩
theorem counts_df {V : Vl} {ks : List L2.Key} {l : List D} (hl : ks.length = l.length) (hn : ks.Nodup) (h : countsD V (.dic ks l) = true) : DF V (lkI ks l) (.dic ks l) := by
  refine ⟨ks, l, rfl, fun a ha => ?_⟩
  unfold countsD at h
  rw [Bool.and_eq_true, List.all_eq_true] at h
  have h1 := of_decide_eq_true h.1
  have hin : ∀ x ∈ ks, x ∈ V.ns.map (Sum.inr : Str → L2.Key) := fun x hx => by
    obtain ⟨d, _, hz⟩ := lk_some hl hx
    have := h.2 _ hz
    rw [Bool.and_eq_true] at this
    cases x with
    | inl i => exact absurd this.1 (by simp [keyIn])
    | inr s => exact List.mem_map.mpr ⟨s, of_decide_eq_true this.1, rfl⟩
  have hk : (Sum.inr a : L2.Key) ∈ ks := nodup_sub_eq hn hin (by rw [List.length_map]; omega) _ (List.mem_map.mpr ⟨a, ha, rfl⟩)
  obtain ⟨d, e, hz⟩ := lk_some hl hk
  have := h.2 _ hz
  rw [Bool.and_eq_true] at this
  have hw := this.2
  unfold lkI
  rw [e]
  cases d <;> first | rfl | cases hw
def readOk (V : Vl) (m w : D) : Bool := match m, w with
  | .int n, .dic ks l => decide (2 ≤ n) && (countsD V (.dic ks l) && ((l.all fun x => numD x && decide (iD x < n)) && V.ns.all fun a => decide (behI V (fun _ => 0) (lkI ks l) a % n = 0)))
  | _, _ => false
theorem readOk_no {V : Vl} {m wt : D} (q : (!wholeD m || (decide (iD m < 2) || !countsD V wt)) = true) : readOk V m wt = false := by
  cases m with
  | int n =>
    cases wt with
    | dic ks l =>
      have q : (!true || (decide (n < 2) || !countsD V (.dic ks l))) = true := q
      rw [Bool.not_true, Bool.false_or, Bool.or_eq_true] at q
      show (decide (2 ≤ n) && (countsD V (.dic ks l) && _)) = false
      rcases q with q | q
      · have q := of_decide_eq_true q
        rw [show decide (2 ≤ n) = false from decide_eq_false (by omega)]; rfl
      · rw [show countsD V (.dic ks l) = false by simpa using q]; simp
    | _ => rfl
  | _ => rfl
theorem readOk_yes {V : Vl} {m wt : D} (q : (!wholeD m || (decide (iD m < 2) || !countsD V wt)) = false) : ∃ n ks ws, m = .int n ∧ wt = .dic ks ws ∧ 2 ≤ n ∧ countsD V (.dic ks ws) = true := by
  cases m with
  | int n =>
    cases wt with
    | dic ks l =>
      have q : (!true || (decide (n < 2) || !countsD V (.dic ks l))) = false := q
      rw [Bool.not_true, Bool.false_or, Bool.or_eq_false_iff] at q
      have q1 := of_decide_eq_false q.1
      exact ⟨n, ks, l, rfl, rfl, by omega, by simpa using q.2⟩
    | _ => simp [countsD] at q
  | _ => simp [wholeD] at q
def readD (V : Vl) (d : D) : Bool := match sq d with
  | some [m, w] => readOk V m w
  | _ => false
section
variable {P : Program} {w : World} {K : PySem.W.Frag} {mg : Str → Option Value} {base : Heap} {f C : Addr} {fd : FuncData} {M : Md} {σ : L2.St} {B : Hp} {te : TE} {V : Vl} {d : D}
def okR (C : Addr) (d : D) : Prop := okV C d ∧ ∀ l, sq d = some l → ∀ x ∈ l, okT C x
abbrev Sp_is_reading_of (C : Addr) := SpQ (inpVD C) (fun p => VOk p.1 ∧ okR C p.2) fun p => .bl (readD p.1 p.2)
abbrev N_is_reading_of : List Str := ["village", "thing", "modulus", "weights", "weight", "given", "house", "number"]
theorem ok_is_reading_of {a1 a2 a3 a4 a5 : Addr} (F : Fun K "is_reading_of" "is_reading_of" s_is_reading_of f fd) (N : Bn mg) (T : VlF K C)
    (g1 : mg "is_row" = some (.ref a1)) (O1 : OkF P w K mg base 2 a1 ["thing", "many"] (Sp_is_row C)) (g2 : mg "is_whole" = some (.ref a2)) (O2 : OkF P w K mg base 1 a2 ["thing"] (Sp_is_whole C))
    (g3 : mg "is_counts" = some (.ref a3)) (O3 : OkF P w K mg base 2 a3 ["village", "thing"] (Sp_is_counts C)) (g4 : mg "is_number" = some (.ref a4)) (O4 : OkF P w K mg base 2 a4 ["thing"] (Sp_is_number C))
    (g5 : mg "behind" = some (.ref a5)) (O5 : OkF P w K mg base 3 a5 ["village", "purse", "script"] (Sp_behind C)) : FnOk P w K mg base CX0 4 f fd ["village", "thing"] (Sp_is_reading_of C) := by
  refine F.ok sc_is_reading_of (SpQ.len fun _ => rfl) (fun cdv A outer s H vs Q E hr h => ?_)
  obtain ⟨F0, ⟨V, d⟩, tr, hd, ⟨pV, p1, p2⟩, k⟩ := h
  obtain ⟨x, y, rfl, hx, hy⟩ := two_inv hd
  have pV : VOk V := pV
  have hn : V.ns.length ≤ 16 := pV.n
  have h16 := small16
  have hu := hu_of hr
  refine ⟨_, pss_cons (ps_if (pw_or (pt_not (pt_val (pe_c O1 (hr.mono (by decide)) g1 (pa_cons (pv 1) (pa_cons pe_int pa_nil))))) (pw_or (pt_not (pt_val (pe_c O2 (hr.mono (by decide)) g2 (pa_cons (pe_ix ix_seq (pv 1) pe_int (fun _ _ => rfl)) pa_nil))))
      (pw_or (pt_cmpR op_lt (pe_ix ix_seq (pv 1) pe_int (fun _ _ => rfl)) pe_int (nomark _)) (pw_or1 (pt_not (pt_val (pe_c O3 (hr.mono (by decide)) g3 (pa_cons (pv 0) (pa_cons (pe_ix ix_seq (pv 1) pe_int (fun _ _ => rfl)) pa_nil))))))))).pt (pss_one (ps_ret pe_bl)) pss_nil)
    (pss_cons (ps_asg (g := gSq K 2 (gCons (gName 2) (gCons (gName 3) gNil))) (pv 1) (by exact pg_or (pg_tup (by rfl) (pgs_cons (pg_name (i := 2) sc_is_reading_of.nd rfl (Or.inr rfl)) (pgs_cons (pg_name (i := 3) sc_is_reading_of.nd rfl (Or.inl rfl)) pgs_nil))) (pg_unl (by rfl) (pgs_cons (pg_name (i := 2) sc_is_reading_of.nd rfl (Or.inr rfl)) (pgs_cons (pg_name (i := 3) sc_is_reading_of.nd rfl (Or.inl rfl)) pgs_nil)))))
    (pss_cons (ps_if (pt_not (pt_val (pe_lockR (pe_callB (cr_all rfl) (by rfl) N.all (by decide +kernel) (pa_cons (pe_lc (own := [("weight", 4)]) (g := gName 4) (by rfl) sc_is_reading_of.nd (pi_values (pv 3)) (blkOk_by (own := [("weight", 4)]) (N := N_is_reading_of) (sc := defScope s_is_reading_of) (by decide +kernel)) (fun _ _ _ _ _ => pg_name (i := 4) sc_is_reading_of.nd rfl (Or.inl rfl)) (fun _ _ _ _ _ => pts_nil) (fun _ _ _ _ _ => (pe_and (pe_c O4 (hr.mono (by decide)) g4 (pa_cons (pv 4) pa_nil)) (pe_one (pe_cmpR op_lt (pv 4) (pv 2) (nomark _)))))) pa_nil))))) (pss_one (ps_ret pe_bl)) pss_nil)
    (pss_cons (ps_set (i := 5) sc_is_reading_of.nd rfl (Or.inl rfl) (pe_c O5 hr g5 (pa_cons (pv 0) (pa_cons (pe_dc (own := [("house", 6)]) (g := gName 6) (by rfl) sc_is_reading_of.nd (pi_list (pe_fld (pv 0) rfl)) (blkOk_by (own := [("house", 6)]) (N := N_is_reading_of) (sc := defScope s_is_reading_of) (by decide +kernel)) (fun _ _ _ _ _ => pg_name (i := 6) sc_is_reading_of.nd rfl (Or.inl rfl)) (fun _ _ _ _ _ => pts_nil) (fun _ _ _ _ _ => (pv 6)) (fun _ _ _ _ _ => pe_int)) (pa_cons (pv 3) pa_nil)))))
    (pss_one (ps_ret (pe_lockR (pe_callB (cr_all rfl) (by rfl) N.all (by decide +kernel) (pa_cons (pe_lc (own := [("number", 7)]) (g := gName 7) (by rfl) sc_is_reading_of.nd (pi_values (pv 5)) (blkOk_by (own := [("number", 7)]) (N := N_is_reading_of) (sc := defScope s_is_reading_of) (by decide +kernel)) (fun _ _ _ _ _ => pg_name (i := 7) sc_is_reading_of.nd rfl (Or.inl rfl)) (fun _ _ _ _ _ => pts_nil) (fun _ _ _ _ _ => (pe_cmpR op_eq (pe_op op_mod (pv 7) (pv 2)) pe_int (nomark _)))) pa_nil)))))))), ?_⟩
  have yes : ∀ (b : Bool), b = true ∨ b = false := fun b => by cases b <;> simp
  cases hq1 : rowD d 2 with
  | false =>
    have e0 : readD V d = false := by
      unfold readD
      cases hs : sq d with
      | none => rfl
      | some l =>
        have hl : isListD d = true ∧ lenD d = l.length := by cases d <;> first | (cases hs; done) | (cases hs; exact ⟨rfl, rfl⟩)
        unfold rowD at hq1
        rw [hl.1, hl.2] at hq1
        match l with
        | [] => rfl
        | [_] => rfl
        | [_, _] => simp at hq1
        | _ :: _ :: _ :: _ => rfl
    refine r_if (b := true) (Rn.begin (wd0 tr)) (et_is (et_or (a := true) (b := false) (et_is (et_not (et_val (ev_call2 (ev_var rfl hy) ev_int ⟨p1, 2, rfl⟩ rfl))) (by show (!rowD d 2) = true; rw [hq1]; rfl)) fun q => by cases q) rfl) (fun _ B1 H1 e1 g1 R1 => ?_) (fun q => by cases q)
    exact r_ret R1 ev_bl fun v H2 g2 h2 => k v H2 g2 (by show Dt _ (.bl (readD V d)) v; rw [e0]; exact h2)
  | true =>
    obtain ⟨l, hs, hl⟩ := sq_of_list (d := d) (by unfold rowD at hq1; rw [Bool.and_eq_true] at hq1; exact hq1.1)
    have h2 : l.length = 2 := by
      unfold rowD at hq1; rw [Bool.and_eq_true, hl] at hq1
      have := of_decide_eq_true hq1.2
      omega
    match l, h2 with
    | [m, wt], _ =>
    have e0 : readD V d = readOk V m wt := by unfold readD; rw [hs]
    have om : okT C m := p2 _ hs m (by simp)
    have ow : okT C wt := p2 _ hs wt (by simp)
    have no : ∀ {X : Bool}, readOk V m wt = false → ∀ (v : L2.V) (H2 : Hp), Go M0 F0 H H2 → Dt (Hd M0 F0 H2) (.bl false) v → Q v H2 := fun z v H2 g2 h2 => k v H2 g2 (by show Dt _ (.bl (readD V d)) v; rw [e0, z]; exact h2)
    have ix0 : ∀ {B' : Hp} {σ : L2.St}, Ex (Hd M0 F0 H) B' → σ[1]? = some (some y) → Ev M0 (tOp (rIx K) (tVar 1) (tC (.int 0))) σ B' m := fun e z => ev_op (ev_var z (hy.mono e.le)) ev_int (rv_ix hs rfl)
    have ix1 : ∀ {B' : Hp} {σ : L2.St}, Ex (Hd M0 F0 H) B' → σ[1]? = some (some y) → Ev M0 (tOp (rIx K) (tVar 1) (tC (.int 1))) σ B' wt := fun e z => ev_op (ev_var z (hy.mono e.le)) ev_int (rv_ix hs rfl)
    have b0 := Ex.refl (Hd M0 F0 H)
    refine r_if (b := !wholeD m || (decide (iD m < 2) || !countsD V wt)) (Rn.begin (wd0 tr)) (et_is (et_or (a := false) (et_is (et_not (et_val (ev_call2 (ev_var rfl hy) ev_int ⟨p1, 2, rfl⟩ rfl))) (by show (!rowD d 2) = false; rw [hq1]; rfl)) fun _ =>
      et_or (a := !wholeD m) (et_not (et_val (ev_call1 (ix0 b0 rfl) om.1 rfl))) fun q2 => et_or (a := decide (iD m < 2)) (et_cmp ?_) fun q3 => et_not (et_val (ev_callQ (inp := inpVD C) (V, wt) (ea_cons (ev_var rfl hx) (ea_cons (ix1 b0 rfl) ea_nil)) ⟨pV, ow⟩))) (by simp)) (fun q B1 H1 e1 g1 R1 => ?_) (fun q B1 H1 e1 g1 R1 => ?_)
    · cases m <;> first | (cases q2; done) | exact ev_op (ix0 b0 rfl) ev_int (rv_I0 rfl)
    · refine r_ret R1 ev_bl (no (X := true) ?_)
      exact readOk_no q
    · obtain ⟨n, ks, ws, rfl, rfl, q1', q2'⟩ := readOk_yes q
      have q' : 2 ≤ n ∧ countsD V (.dic ks ws) = true := ⟨q1', q2'⟩
      obtain ⟨hkl, hkn, hok⟩ := ow.2 ks ws rfl
      have hdf := counts_df hkl hkn q'.2
      have hlen : ws.length = V.ns.length := by
        have := q'.2
        unfold countsD at this
        rw [Bool.and_eq_true] at this
        exact of_decide_eq_true this.1
      refine r_next ?_
      dsimp only
      refine r_tg (R' := fun σ2 B2 => ∃ vm vw, σ2 = [some x, some y, some vm, some vw, none, none, none, none] ∧ Dt B2 (.int n) vm ∧ Dt B2 (.dic ks ws) vw) R1 (ev_var rfl (hy.mono e1.le)) (fun B2 e2 => tg_sq hs rfl (tgs_cons (tg_name fun B3 v3 e3 d3 => tgs_cons (tg_name fun B4 v4 e4 d4 => tgs_nil fun B5 e5 => ⟨v3, v4, rfl, (d3.mono e4.le).mono e5.le, d4.mono e5.le⟩)))) ?_
      rintro σ2 B2 H2 e2 g2 R2 ⟨vm, vw, rfl, dm, dw⟩
      obtain ⟨wa, wes, rfl, _⟩ := dic_inv dw
      have tok : readOk V (.int n) (.dic ks ws) = ((ws.all fun x => numD x && decide (iD x < n)) && V.ns.all fun a => decide (behI V (fun _ => 0) (lkI ks ws) a % n = 0)) := by
        show (decide (2 ≤ n) && (countsD V (.dic ks ws) && _)) = _
        rw [q'.2, show decide (2 ≤ n) = true from decide_eq_true q'.1]; rfl
      refine r_if (b := !(ws.all fun x => numD x && decide (iD x < n))) R2 (et_not (et_val (ev_lockR dw fun B3 es le ek hl3 lkd => ?_))) (fun q3 B3 H3 e3 g3 R3 => ?_) (fun q3 B3 H3 e3 g3 R3 => ?_)
      · refine ev_is (ev_cb (ea_cons (EvF.ev (ef_is (ef_lcm (fun x => .bl (numD x && decide (iD x < n))) (ei_values (at_var rfl) hl3 lkd) (by omega) ?_) ?_)) ea_nil) (rc_all (bs := ws.map fun x => numD x && decide (iD x < n)))) ?_
        · intro u hu'
          refine turn_name (fun _ => rfl) fun B4 z4 e4 d4 => ⟨et_yes, fun _ => ?_⟩
          refine ev_andV (ev_call1 (ev_var rfl d4) (hok u hu') rfl) fun qn => ?_
          cases u <;> first | (cases qn; done) | skip
          exact ev_op (ev_var rfl d4) (ev_var rfl ((dm.mono le).mono e4.le)) (rv_I0 rfl)
        · rw [List.map_map]; rfl
        · rw [List.all_map]; rfl
      · refine r_ret R3 ev_bl (no (X := true) ?_)
        rw [tok, show (ws.all fun x => numD x && decide (iD x < n)) = false by simpa using q3]; rfl
      · refine r_next ?_
        dsimp only
        have dx3 := (((hx.mono e1.le).mono e2.le).mono e3.le)
        have dw3 := dw.mono e3.le
        have dm3 := dm.mono e3.le
        refine r_set R3 (EvG.ev (eg_callQ (inp := fun b : Beh => [vD C b.V, b.p, b.s]) (⟨V, _, _, fun _ => 0, lkI ks ws⟩ : Beh) (ea_cons (ev_var rfl dx3) (ea_cons (EvG.ev (eg_dcm (ys := V.ns) (en := D.str) .inr (fun _ => .int 0) (ei_list (ev_houses T (ev_var rfl dx3))) (by omega) ?_ ?_)) (ea_cons (ev_var rfl dw3) ea_nil))) ⟨pV, df_mk (g := fun _ => 0), hdf⟩)) fun v5 B4 H4 e4 g4 R4 d5 => ?_
        · exact nodup_inr pV.nd
        · intro a ha F' B' H' u Q' e' W' du k'
          exact k' _ rfl et_yes fun _ => ⟨ev_var rfl du, ev_int⟩
        · obtain ⟨ga, ges, rfl, _⟩ := dic_inv d5
          refine r_ret (De := EQ Q) (d := .bl (readD V d)) R4 (ev_is (ev_lockR d5 fun B5 es le ek hl5 lkd => ?_) (?_ : D.bl (V.ns.all fun a => decide (behI V (fun _ => 0) (lkI ks ws) a % n = 0)) = _)) k
          · refine ev_is (ev_cb (ea_cons (EvF.ev (ef_is (ef_lcmA (ys := V.ns) (en := fun a => D.int (behI V (fun _ => 0) (lkI ks ws) a)) (fun a => .bl (decide (behI V (fun _ => 0) (lkI ks ws) a % n = 0))) (ei_values (at_var rfl) hl5 lkd) (by omega) ?_) ?_)) ea_nil) (rc_all (bs := V.ns.map fun a => decide (behI V (fun _ => 0) (lkI ks ws) a % n = 0)))) ?_
            · intro a ha
              refine turn_name (fun _ => rfl) fun B6 z6 e6 d6 => ⟨et_yes, fun _ => ?_⟩
              exact ev_op (ev_op (ev_var rfl d6) (ev_var rfl (((dm3.mono e4.le).mono le).mono e6.le)) (rv_I rfl (by omega))) ev_int rv_eqI
            · rw [List.map_map]; rfl
            · rw [List.all_map]; rfl
          · rw [e0, tok, show (ws.all fun x => numD x && decide (iD x < n)) = true by simpa using q3]; rfl
end
end Pg

/-! DL8: texts and slices by data. -/
namespace DL
open PySem PySem.Spec PyProof.Rows L2
section
variable {M : Md} {σ : L2.St} {B : Hp} {d d1 d2 : D} {ta tb te td tk : TE} {tl th : TO} {K : PySem.W.Frag}
theorem eo_none : EvO M tNoPart σ B none := fun F H Q W k => k H (Go.refl W.i)
theorem eo_some {i : Int} (h : Ev M te σ B (.int i)) : EvO M (tPart te) σ B (some i) := fun F H Q W k => h F H _ W fun v H1 g e => ⟨i, e, k H1 g⟩
theorem ev_slS {z : Str} {lo hi : Option Int} (h : Ev M te σ B (.str z)) (hl : EvO M tl σ B lo) (hh : EvO M th σ B hi) (hz : z.length ≤ sizeLine) : Ev M (tSl rSlS te tl th) σ B (.str (cutS z lo hi)) := fun F H Q W k =>
  h F H _ W fun v H1 g1 e1 => hl F H1 _ (W.go g1) fun H2 g2 => hh F H2 _ ((W.go g1).go g2) fun H3 g3 => ⟨z, e1, hz, k _ H3 ((g1.trans g2).trans g3) rfl⟩
def cutD (l : List D) (lo hi : Option Int) : List D := (l.drop (HT.sIx l.length 0 lo)).take (HT.sIx l.length l.length hi - HT.sIx l.length 0 lo)
theorem dtl_cut {H : Hp} {l : List D} {vs : List V} {lo hi : Option Int} (h : DtL H l vs) : DtL H (cutD l lo hi) (cutV vs lo hi) := by
  unfold cutD cutV
  rw [h.length]
  exact DtL.take _ (DtL.drop _ h)
theorem ef_slL {l : List D} {lo hi : Option Int} (h : Ev M te σ B (.lst l)) (hl : EvO M tl σ B lo) (hh : EvO M th σ B hi) : EvF M (tSl (rSlL K) te tl th) σ B (cutD l lo hi) := fun F H Q W k =>
  h F H _ W fun v H1 g1 e1 => hl F H1 _ (W.go g1) fun H2 g2 => hh F H2 _ ((W.go g1).go g2) fun H3 g3 => by
    obtain ⟨a, vs, rfl, ha, hv⟩ := lst_inv (e1.mono (g2.trans g3).le)
    have g := (g1.trans g2).trans g3
    exact ⟨a, vs, rfl, SqL.of (hdL ha), fun p hp => k p _ _ (W.back g (Fr.of hp)) (g.trans ((W.go g).new hp _)) upd_same ((dtl_cut hv).mono (hidden_up hp).le)⟩
theorem rv_addS {a b : Str} (hz : a.length + b.length ≤ sizeLine) : RV M (fun x y H Q => ∃ i j, x = .str i ∧ y = .str j ∧ i.length + j.length ≤ sizeLine ∧ Q (.str (i ++ j)) H) (.str a) (.str b) (.str (a ++ b)) := rv_fl rfl rfl rfl fun H Q q => ⟨a, b, rfl, rfl, hz, q⟩
theorem rvf_cat {l m : List D} (hz : l.length + m.length ≤ sizeLine) : RVF M rCat (.lst l) (.lst m) (l ++ m) := fun F B H x y Q W e1 e2 k => by
  obtain ⟨a, vs, rfl, ha, hv⟩ := lst_inv e1
  obtain ⟨b, ws, rfl, hb, hw⟩ := lst_inv e2
  exact ⟨a, b, vs, ws, rfl, rfl, hdL ha, hdL hb, by rw [hv.length, hw.length]; exact hz, fun p hp => k p _ _ (Fr.of hp) (W.new hp _) upd_same ((DtL.append hv hw).mono (hidden_up hp).le)⟩
/-- s.split(t) -/
theorem ef_split {a b : Str} (h : Ev M ta σ B (.str a)) (h2 : Ev M tb σ B (.str b)) (hb : (b.length == 0) = false) (ha : a.length + 2 ≤ sizeLine) :
    EvF M (tM1 (fun x xs H Q => ∃ a b, x = .str a ∧ xs = [.str b] ∧ (b.length == 0) = false ∧ a.length + 2 ≤ sizeLine ∧ rNewStrs (Txt.split a b) H Q) ta tb) σ B ((Txt.split a b).map D.str) := fun F H Q W k =>
  h F H _ W fun x H1 g1 e1 => by
    have ex : x = .str a := e1
    subst ex
    refine ⟨⟨a, rfl⟩, h2 F H1 _ (W.go g1) fun y H2 g2 e2 => ?_⟩
    have ey : y = .str b := e2
    subst ey
    have g := g1.trans g2
    exact ⟨a, b, rfl, rfl, hb, ha, fun p hp => k p _ _ (W.back g (Fr.of hp)) (g.trans ((W.go g).new hp _)) upd_same (DtL.ofStrs _)⟩
/-- s.join(list) -/
theorem ev_join {a : Str} {ys : List Str} (h : Ev M ta σ B (.str a)) (h2 : Ev M tb σ B d) (hs : sq d = some (ys.map D.str)) (hz : (ys.map (·.length)).sum + ys.length * a.length ≤ 16777216) :
    Ev M (tM1 (fun x xs H Q => ∃ a p, ∃ ys : List Str, x = .str a ∧ xs = [.ref p] ∧ (SqL K H p (ys.map V.str) ∨ SqT K H p (ys.map V.str)) ∧ (ys.map (·.length)).sum + ys.length * a.length ≤ 16777216 ∧ Q (.str (Txt.join a ys)) H) ta tb) σ B (.str (Txt.join a ys)) := fun F H Q W k =>
  h F H _ W fun x H1 g1 e1 => by
    have ex : x = .str a := e1
    subst ex
    refine ⟨⟨a, rfl⟩, h2 F H1 _ (W.go g1) fun y H2 g2 e2 => ?_⟩
    obtain ⟨p, vs, rfl, hp, hv⟩ := sq_get hs e2
    have ev := hv.strs
    subst ev
    exact ⟨a, p, ys, rfl, rfl, hp.imp (fun z => SqL.of (hdL z)) (fun z => SqT.of (hdT z)), hz, k _ H2 (g1.trans g2) rfl⟩
/-- lists of texts compared -/
theorem dp_strs {H : Hp} {l : List Str} {v : V} (h : Dt H (.lst (l.map D.str)) v) : Dp K H v (.list (l.map PyData.str)) := by
  obtain ⟨a, vs, rfl, ha, hv⟩ := lst_inv h
  exact .lst (SqL.of ha) (RX.dpall_of (en := D.str) (ep := PyData.str) (fun H v a e => by cases (show v = .str a from e); exact .str a) hv)
theorem depth_strs : ∀ l : List Str, PyData.depthAll (l.map PyData.str) = 0
  | [] => rfl
  | x :: l => by
    show max (PyData.depth (.str x)) (PyData.depthAll (l.map PyData.str)) = 0
    rw [depth_strs l]; rfl
theorem shaped_strs {l : List Str} (h : l.all PyData.strOk = true) : SeqAt.shaped (.list (l.map .str)) = true := by
  unfold SeqAt.shaped
  have e1 : PyData.canLay0 (.list (l.map .str)) = true := by
    show PyData.canLayAll0 (l.map .str) = true
    rw [canLayAll_strs']; exact h
  have e2 : PyData.depth (.list (l.map .str)) = 1 := by
    show PyData.depthAll (l.map .str) + 1 = 1
    rw [depth_strs]
  rw [e1, e2]; rfl
theorem eqvAll_strs : ∀ l m : List Str, PyData.eqvAll (l.map PyData.str) (m.map PyData.str) = decide (l = m)
  | [], [] => rfl
  | [], _ :: _ => by simp [PyData.eqvAll]
  | _ :: _, [] => by simp [PyData.eqvAll]
  | x :: l, y :: m => by
    show ((x == y) && PyData.eqvAll (l.map PyData.str) (m.map PyData.str)) = _
    rw [eqvAll_strs l m]
    by_cases h : x = y <;> by_cases h2 : l = m <;> simp [h, h2]
theorem rv_neLS {l m : List Str} (h1 : l.all PyData.strOk = true) (h2 : m.all PyData.strOk = true) : RV M (rNeD K) (.lst (l.map D.str)) (.lst (m.map D.str)) (.bl (!decide (l = m))) := fun F B H x y Q W e1 e2 k => by
  refine ⟨_, _, dp_strs (e1.mono hd_le), dp_strs (e2.mono hd_le), shaped_strs h1, shaped_strs h2, ?_⟩
  show Q (.bl (!PyData.eqvAll (l.map .str) (m.map .str))) H
  rw [eqvAll_strs]
  exact k _ H (Go.refl W.i) rfl
end
end DL

namespace Pg
open PySem PySem.Spec PyProof.Rows L2 DL RX
/-! ### texts, plain -/
theorem mem_join {c : Nat} {sep p : Str} : ∀ {ts : List Str}, p ∈ ts → c ∈ p.cps.toList → c ∈ (Str.join sep ts).cps.toList
  | [], h, _ => by cases h
  | [x], h, hc => by
    rw [List.mem_singleton] at h
    subst h; exact hc
  | x :: y :: r, h, hc => by
    show c ∈ TL.tl (x ++ sep ++ Str.join sep (y :: r))
    rw [TL.tl_append, TL.tl_append]
    rcases List.mem_cons.mp h with h | h
    · subst h
      exact List.mem_append.mpr (.inl (List.mem_append.mpr (.inl hc)))
    · exact List.mem_append.mpr (.inr (mem_join h hc))
theorem split_mem {a b p : Str} {c : Nat} (h : p ∈ Txt.split a b) (hc : c ∈ p.cps.toList) : c ∈ a.cps.toList := by
  have := mem_join (sep := b) h hc
  rw [StrLaws.join_split] at this
  exact this
theorem split_len {a b p : Str} (h : p ∈ Txt.split a b) : p.length ≤ a.length := by
  have := join_mem_le b _ _ h
  rw [StrLaws.join_split] at this
  exact this
def Asc (s : Str) : Prop := ∀ c ∈ s.cps.toList, c < 128
theorem Asc.ok {s : Str} (h : Asc s) : PyData.strOk s = true := by
  unfold PyData.strOk
  rw [← Array.all_toList, List.all_eq_true]
  exact fun c hc => decide_eq_true (Nat.lt_trans (h c hc) (by decide))
theorem Asc.split {a b p : Str} (h : Asc a) (hp : p ∈ Txt.split a b) : Asc p := fun c hc => h c (split_mem hp hc)
def digs : Str := "0123456789"
def signsOf (s : Str) : Str := if cutS s none (some 1) = "-" then cutS s (some 1) none else s
def digits (g : Str) : Bool := g.cps.toList.all fun c => decide (c ∈ digs.cps.toList)
def at0 (s : Str) (c : Nat) : Bool := decide (s.cps.toList.head? = some c)
def intOf (s : Str) : Option Int :=
  if decide (signsOf s = "") || !digits (signsOf s) then none
  else if at0 (signsOf s) 48 && (decide ((signsOf s).length > 1) || at0 s 45) then none
  else intText? s
theorem dig_mem : ∀ c : Nat, c ∈ digs.cps.toList ↔ 48 ≤ c ∧ c ≤ 57 := by
  have e : digs.cps.toList = [48, 49, 50, 51, 52, 53, 54, 55, 56, 57] := by decide +kernel
  intro c
  rw [e]
  simp only [List.mem_cons, List.not_mem_nil, or_false]
  omega
theorem cut_hd (s : Str) : (cutS s none (some 1)).cps.toList = s.cps.toList.take 1 := by
  unfold cutS
  show ((s.cps.toList.drop 0).take (min 1 s.length - 0)) = _
  rw [List.drop_zero, Nat.sub_zero, ← str_len]
  rw [List.take_eq_take_iff]
  omega
theorem cut_tl (s : Str) : (cutS s (some 1) none).cps.toList = s.cps.toList.drop 1 := by
  unfold cutS
  show ((s.cps.toList.drop (min 1 s.length)).take (s.length - min 1 s.length)) = _
  rw [← str_len]
  cases h : s.cps.toList with
  | nil => rfl
  | cons c l =>
    show List.take (l.length + 1 - min 1 (l.length + 1)) (List.drop (min 1 (l.length + 1)) (c :: l)) = l
    rw [show min 1 (l.length + 1) = 1 by omega]
    simp
theorem str_ext {a b : Str} (h : a.cps.toList = b.cps.toList) : a = b := TL.ext_tl h
theorem minus_l : ("-" : Str).cps.toList = [45] := by decide +kernel
theorem empty_l : ("" : Str).cps.toList = [] := by decide +kernel
theorem intText_some {s : Str} (hl : s.length ≤ 640) (h : (decide (signsOf s = "") || !digits (signsOf s)) = false) : ∃ n, intText? s = some n := by
  rw [Bool.or_eq_false_iff] at h
  have h1 := of_decide_eq_false h.1
  have h2 : digits (signsOf s) = true := by simpa using h.2
  unfold digits at h2
  rw [List.all_eq_true] at h2
  unfold signsOf at h1 h2
  by_cases hm : cutS s none (some 1) = "-"
  · rw [if_pos hm] at h1 h2
    have e := congrArg (fun x : Str => x.cps.toList) hm
    rw [cut_hd, minus_l] at e
    cases hc : s.cps.toList with
    | nil => rw [hc] at e; cases e
    | cons c cs =>
      rw [hc] at e
      have ec : c = 45 := by simpa using e
      subst ec
      rw [cut_tl, hc] at h2
      refine ⟨_, intText_neg hc (fun c hc' => (dig_mem c).mp (of_decide_eq_true (h2 c (by simpa using hc')))) (fun z => h1 (str_ext (by rw [cut_tl, hc, z, empty_l]; rfl))) (by omega)⟩
  · rw [if_neg hm] at h1 h2
    exact ⟨_, intText_digits (fun c hc' => (dig_mem c).mp (of_decide_eq_true (h2 c hc'))) (fun z => h1 (str_ext (by rw [z, empty_l]))) (by omega)⟩
end Pg

namespace Pg
open PySem PySem.Spec PyProof.Rows L2 DL RX
section
variable {P : Program} {w : World} {K : PySem.W.Frag} {mg : Str → Option Value} {base : Heap} {f C : Addr} {fd : FuncData} {M : Md} {σ : L2.St} {B : Hp} {te : TE} {V : Vl} {d : D}
def oI : Option Int → D
  | none => .non
  | some i => .int i
theorem small640 : (640 : Nat) + 2 ≤ sizeLine := by decide
theorem at_head {s : Str} {c : Nat} {l : List Nat} (h : s.cps.toList = c :: l) : atI s.cps.toList 0 = some c := by
  rw [h]
  unfold atI ixN
  rw [if_pos (Int.le_refl 0), if_pos (by rw [List.length_cons]; omega)]
  rfl
theorem at0_eq {s : Str} {c x : Nat} {l : List Nat} (h : s.cps.toList = x :: l) : at0 s c = decide ((⟨#[x]⟩ : Str) = ⟨#[c]⟩) := by
  unfold at0
  rw [h]
  simp
theorem rv_ixStr {z : Str} {i : Int} {c : Nat} (hl : z.length ≤ sizeLine) (h : atI z.cps.toList i = some c) : RV M (rIx K) (.str z) (.int i) (.str ⟨#[c]⟩) := fun F B H x y Q W e1 e2 k => .inr (.inr (rv_ixS hl h F B H x y Q W e1 e2 k))
theorem zero_s : ("0" : Str) = ⟨#[48]⟩ := by decide +kernel
theorem minus_s : ("-" : Str) = ⟨#[45]⟩ := by decide +kernel
theorem ne_cons {z : Str} (h : z ≠ "") : ∃ c l, z.cps.toList = c :: l := by
  cases e : z.cps.toList with
  | nil => exact absurd (str_ext (by rw [e, empty_l])) h
  | cons c l => exact ⟨c, l, rfl⟩
theorem word_ne {z : Str} (h : signsOf z ≠ "") : z ≠ "" := fun e => h (by
  subst e
  unfold signsOf
  rw [if_neg]
  intro q
  have := congrArg (fun x : Str => x.cps.toList) q
  rw [cut_hd, minus_l, empty_l] at this
  cases this)
theorem ev_all_in {t : TE} {i : Nat} {g U : Str} (hg : g.length ≤ 640) (h : Ev M te σ B (.str g)) (hw : ∀ x, wipe ((wipe σ [i]).set i (some x)) [i] = wipe σ [i]) (hi : ∀ x : L2.V, ((wipe σ [i]).set i (some x))[i]? = some (some x)) (ht : ∀ c B', Ex B B' → Ev M (tVar i) ((wipe σ [i]).set i (some (.str ⟨#[c]⟩))) B' (.str ⟨#[c]⟩) → Ev M t ((wipe σ [i]).set i (some (.str ⟨#[c]⟩))) B' (.bl (decide (c ∈ U.cps.toList)))) :
    Ev M (tCB (rAll K) (tCons (tLc (iStr te) (gName i) tYes t [i]) tNil)) σ B (.bl (g.cps.toList.all fun c => decide (c ∈ U.cps.toList))) := by
  refine ev_is (ev_cb (ea_cons (EvF.ev (ef_is (ef_lcmA (ys := g.cps.toList) (en := fun c => D.str ⟨#[c]⟩) (fun c => .bl (decide (c ∈ U.cps.toList))) (ei_str h) (by rw [str_len]; have := small640; omega) ?_) ?_)) ea_nil) (rc_all (bs := g.cps.toList.map fun c => decide (c ∈ U.cps.toList)))) ?_
  · intro c hc
    refine turn_name hw fun B' x e dx => ⟨et_yes, fun _ => ?_⟩
    have ex : x = .str ⟨#[c]⟩ := dx
    subst ex
    exact ht c B' e (ev_var (hi _) rfl)
  · rw [List.map_map]; rfl
  · rw [List.all_map]; rfl
theorem ev_in_sign {t : TE} {c : Nat} {U : Str} (h : Ev M t σ B (.str ⟨#[c]⟩)) (h2 : Ev M te σ B (.str U)) : Ev M (tOp (fun x y H Q => ∃ (c : Nat) (z : Str), x = .str ⟨#[c]⟩ ∧ y = .str z ∧ Q (.bl (decide (c ∈ z.cps.toList))) H) t te) σ B (.bl (decide (c ∈ U.cps.toList))) :=
  ev_op h h2 (rv_fl rfl rfl rfl fun H Q q => ⟨c, U, rfl, rfl, q⟩)
theorem cut_len {z : Str} {lo hi : Option Int} : (cutS z lo hi).length ≤ z.length := by
  rw [← str_len, ← str_len]
  unfold cutS
  show (List.take _ (List.drop _ z.cps.toList)).length ≤ _
  rw [List.length_take, List.length_drop]
  omega
theorem signs_len {z : Str} : (signsOf z).length ≤ z.length := by
  unfold signsOf
  by_cases h : cutS z none (some 1) = "-"
  · rw [if_pos h]; exact cut_len
  · rw [if_neg h]; exact Nat.le_refl _
theorem rc_lenS {z : Str} (h : z.length ≤ sizeLine) : RC M (fun xs H Q => ∃ z, xs = [.str z] ∧ z.length ≤ sizeLine ∧ Q (.int z.length) H) [.str z] (.int (z.length : Nat)) := fun F B H vs Q W e k => by
  obtain ⟨y, rfl, hy⟩ := one_inv e
  exact ⟨z, by rw [(show y = .str z from hy)], h, k _ H (Go.refl W.i) rfl⟩
theorem rc_intS {z : Str} {n : Int} (h : intText? z = some n) (hl : z.length ≤ 640) : RC M (fun xs H Q => ∃ a n, xs = [.str a] ∧ intText? a = some n ∧ a.length ≤ 640 ∧ Q (.int n) H) [.str z] (.int n) := fun F B H vs Q W e k => by
  obtain ⟨y, rfl, hy⟩ := one_inv e
  exact ⟨z, n, by rw [(show y = .str z from hy)], h, hl, k _ H (Go.refl W.i) rfl⟩
abbrev Sp_integer_of := SpQ (α := Str) (fun s => [.str s]) (fun s => s.length ≤ 640) fun s => oI (intOf s)
theorem ok_integer_of (F : Fun K "integer_of" "integer_of" s_integer_of f fd) (N : Bn mg) : FnOk P w K mg base CX0 2 f fd ["word"] Sp_integer_of := by
  refine F.ok sc_integer_of (SpQ.len fun _ => rfl) (fun cdv A outer s H vs Q E hr h => ?_)
  obtain ⟨F0, z, tr, hd, p1, k⟩ := h
  obtain ⟨x, rfl, hx⟩ := one_inv hd
  have hz := small640
  refine ⟨_, pss_cons (ps_set (i := 1) sc_integer_of.nd rfl (Or.inl rfl) (pe_ifExp (pt_cmpR op_eq (pe_slice sl_str (pv 0) po_none (po_some pe_int)) pe_str (nomark _)) (pe_slice sl_str (pv 0) (po_some pe_int) po_none) (pv 0)))
    (pss_cons (ps_if (pw_or (pt_cmpR op_eq (pv 1) pe_str (nomark _)) (pw_or1 (pt_not (pt_val (pe_callB (cr_all rfl) (by rfl) N.all (by decide +kernel) (pa_cons (pe_lc (own := [("sign", 2)]) (g := gName 2) (by rfl) sc_integer_of.nd (pi_str (pv 1)) (blkOk_by (own := [("sign", 2)]) (N := ["word", "signs", "sign"]) (sc := defScope s_integer_of) (by decide +kernel)) (fun _ _ _ _ _ => pg_name (i := 2) sc_integer_of.nd rfl (Or.inl rfl)) (fun _ _ _ _ _ => pts_nil) (fun _ _ _ _ _ => (pe_cmpR op_in_sign (pv 2) pe_str (by rfl)))) pa_nil)))))).pt (pss_one (ps_ret pe_non)) pss_nil)
    (pss_cons (ps_if (pw_and (pt_cmpR op_eq (pe_ix ix_seq (pv 1) pe_int (fun _ _ => rfl)) pe_str (nomark _)) (pw_and1 (pw_or (pt_cmpR op_gt (pe_callB call_len_str (by rfl) N.len PySem.boot_len (pa_cons (pv 1) pa_nil)) pe_int (nomark _)) (pw_or1 (pt_cmpR op_eq (pe_ix ix_seq (pv 0) pe_int (fun _ _ => rfl)) pe_str (nomark _)))).pt)).pt (pss_one (ps_ret pe_non)) pss_nil)
    (pss_one (ps_ret (pe_callTy call_int_str (by rfl) N.int (by decide +kernel) (pa_cons (pv 0) pa_nil)))))), ?_⟩
  have hl : z.length ≤ 640 := p1
  have hsl := signs_len (z := z)
  refine r_set (d := .str (signsOf z)) (Rn.begin (wd0 tr)) (ev_if (b := decide (cutS z none (some 1) = "-")) (et_cmp (ev_op (ev_slS (ev_var rfl hx) eo_none (eo_some ev_int) (by omega)) ev_str rv_eqS)) (fun q => ev_is (ev_slS (ev_var rfl hx) (eo_some ev_int) eo_none (by omega)) (by unfold signsOf; rw [if_pos (of_decide_eq_true q)])) (fun q => ev_is (ev_var rfl hx) (by unfold signsOf; rw [if_neg (of_decide_eq_false q)]))) fun v B1 H1 e1 g1 R1 d1 => ?_
  refine r_if (b := decide (signsOf z = "") || !digits (signsOf z)) R1 (et_or (et_cmp (ev_op (ev_var rfl d1) ev_str rv_eqS)) fun q => et_not (et_val (ev_all_in (U := digs) (by omega) (ev_var rfl d1) (fun _ => rfl) (fun _ => rfl) fun c B' e h => ev_in_sign h ev_str))) (fun q B2 H2 e2 g2 R2 => ?_) (fun q B2 H2 e2 g2 R2 => ?_)
  · exact r_ret R2 ev_non fun v H3 g3 h3 => k v H3 g3 (by show Dt _ (oI (intOf z)) v; rw [show intOf z = none from if_pos q]; exact h3)
  · refine r_next ?_
    dsimp only
    have q1 : signsOf z ≠ "" := by
      rw [Bool.or_eq_false_iff] at q
      exact of_decide_eq_false q.1
    obtain ⟨c, l, hc⟩ := ne_cons q1
    obtain ⟨c2, l2, hc2⟩ := ne_cons (word_ne q1)
    obtain ⟨n, hn⟩ := intText_some hl q
    have d12 := d1.mono e2.le
    have hx2 := (hx.mono e1.le).mono e2.le
    refine r_if (b := at0 (signsOf z) 48 && (decide ((signsOf z).length > 1) || at0 z 45)) R2 (et_and (et_is (et_cmp (ev_op (ev_op (ev_var rfl d12) ev_int (rv_ixStr (by omega) (at_head hc))) ev_str rv_eqS)) (by rw [at0_eq hc, zero_s])) fun _ => et_or (et_is (et_cmp (ev_op (ev_cb (ea_cons (ev_var rfl d12) ea_nil) (rc_lenS (by omega))) ev_int (rv_I0 rfl))) (by rw [decide_eq_decide]; omega)) fun _ => et_is (et_cmp (ev_op (ev_op (ev_var rfl hx2) ev_int (rv_ixStr (by omega) (at_head hc2))) ev_str rv_eqS)) (by rw [at0_eq hc2, minus_s])) (fun q3 B3 H3 e3 g3 R3 => ?_) (fun q3 B3 H3 e3 g3 R3 => ?_)
    · exact r_ret R3 ev_non fun v H4 g4 h4 => k v H4 g4 (by show Dt _ (oI (intOf z)) v; rw [show intOf z = none from by unfold intOf; rw [q, if_neg (by simp), if_pos q3]]; exact h4)
    · refine r_next ?_
      dsimp only
      exact r_ret R3 (ev_cb (ea_cons (ev_var rfl (hx2.mono e3.le)) ea_nil) (rc_intS hn hl)) fun v H4 g4 h4 => k v H4 g4 (by show Dt _ (oI (intOf z)) v; rw [show intOf z = some n from by unfold intOf; rw [q, if_neg (by simp), q3, if_neg (by simp), hn]]; exact h4)
end
end Pg

/-! DL9: more statements and operators. -/
namespace DL
open PySem PySem.Spec PyProof.Rows L2
section
variable {M : Md} {F0 F : List Addr} {H0 H H' B B' : Hp} {p : Addr} {d d1 d2 d3 : D} {σ : L2.St} {te ta tb tc : TE} {De : Ends} {tz : TS} {K : PySem.W.Frag}
theorem r_parGN {i j : Nat} {ks : List L2.Key} {ds : List D} (R : Rn M F0 H0 F B H) (h1 : Ev M ta σ B d1) (h2 : EvG M tb σ B ks ds)
    (k : ∀ v p es B' H', Fr H0 p → Ex B B' → Rn M F0 H0 (p :: F) B' H' → p ∉ F → p ∉ M.S → p ∉ F0 → H' p = some (.dK es) → es.map (·.1) = ks → DtL B' ds (es.map (·.2)) → Dt B' d1 v → tz De ((σ.set i (some v)).set j (some (.ref p))) H') :
    tSeq (tPar i j (tCons ta (tCons tb tNil))) tz De σ H :=
  h1 F H _ R.w fun v H1 g1 e1 => h2 F H1 _ (R.w.go g1) fun p es H2 f g2 e hk hd => by
    have R1 := R.step g1
    obtain ⟨r, x, n1, n2⟩ := R1.own g2 f e rfl
    exact ⟨v, .ref p, rfl, k v p es _ H2 (R1.fr f) ((R.ext g1).trans x) r n1 n2 (fun z => n1 (R.s p z)) e hk hd (e1.mono x.le)⟩
theorem rv_notN : RV M (fun x y H Q => y = .non ∧ Q (.bl (!decide (x = .non))) H) d .non (.bl (!isNon d)) := fun F B H x y Q W e1 e2 k => ⟨e2, by rw [isNon_dt e1]; exact k _ H (Go.refl W.i) rfl⟩
theorem rv_isN : RV M (fun x y H Q => y = .non ∧ Q (.bl (decide (x = .non))) H) d .non (.bl (isNon d)) := fun F B H x y Q W e1 e2 k => ⟨e2, by rw [isNon_dt e1]; exact k _ H (Go.refl W.i) rfl⟩
theorem ru_neg {i : Int} : RU M (rU fun i => .int (-i)) (.int i) (.int (-i)) := fun F B H x Q W e k => ⟨i, e, k _ H (Go.refl W.i) rfl⟩
theorem ev_chainR {r r' : R2} {a b : Bool} (h1 : Ev M ta σ B d1) (h2 : Ev M tb σ B d2) (hr : RV M r d1 d2 (.bl a)) (h3 : a = true → Ev M tc σ B d3 ∧ RV M r' d2 d3 (.bl b)) : Ev M (tChain r r' ta tb tc) σ B (.bl (a && b)) := fun F H Q W k =>
  h1 F H _ W fun x H1 g1 e1 => h2 F H1 _ (W.go g1) fun y H2 g2 e2 => hr F B H2 x y _ ((W.go g1).go g2) (e1.mono g2.le) e2 fun v H3 g3 e3 => ⟨a, e3, by
    cases a with
    | false => exact iteF (k _ H3 ((g1.trans g2).trans g3) rfl)
    | true => exact iteT ((h3 rfl).1 F H3 _ (((W.go g1).go g2).go g3) fun z H4 g4 e4 => (h3 rfl).2 F B H4 y z Q ((((W.go g1).go g2).go g3).go g4) (e2.mono (g3.trans g4).le) e4 fun u H5 g5 e5 => k u H5 ((((g1.trans g2).trans g3).trans g4).trans g5) e5)⟩
/-- hidden again: what was made since H0 -/
theorem ex_hide {H1 : Hp} (e : Ex B (Hd M F H)) (f : Fr B p) : Ex B (Hd M (p :: F) H) := fun b o h n => by
  obtain ⟨q, h2⟩ := hd_some.mp (e b o h n)
  refine hd_some.mpr ⟨⟨q.1, fun z => ?_⟩, h2⟩
  rcases List.mem_cons.mp z with z | z
  · subst z; exact f o h n
  · exact q.2 z
theorem fr_view (f : Fr H p) : Fr (Hd M F H) p := fun o e n => f o (hd_some.mp e).2 n
theorem fr_back (e : Ex B (Hd M F H)) (f : Fr H p) : Fr B p := fun o h n => f o (hd_some.mp (e p o h n)).2 n
theorem Rn.hide {o : HO} (R : Rn M F0 H0 F B H) (f : Fr H0 p) (h : H p = some o) : Rn M F0 H0 (p :: F) (Hd M (p :: F) H) H := by
  refine ⟨⟨Ex.refl _, R.w.i, fun b hb => ?_⟩, ex_hide (H1 := H) (R.e0.trans R.w.e) (fr_view f), fun b hb => List.mem_cons_of_mem _ (R.s b hb), R.x⟩
  rcases List.mem_cons.mp hb with z | z
  · subst z; exact ⟨o, h, rfl⟩
  · exact R.w.f b z
end
end DL

namespace Pg
open PySem PySem.Spec PyProof.Rows L2 DL RX
theorem parts_ne {x : Str} {l : List Nat} {n : Nat} : Builtin.Str.partsBetween x l n ≠ [] := by
  unfold Builtin.Str.partsBetween
  cases l <;> simp
theorem split_ne {x y : Str} : Txt.split x y ≠ [] := by
  unfold Txt.split
  split
  · simp
  · split
    · simp
    · exact parts_ne
def nl : Str := "\n"
def linesOf (s : Str) : List Str := (Txt.split s nl).dropLast
def restOf (s : Str) : Str := (Txt.split s nl).getLastD ""
theorem nl_eq : nl = "\n" := rfl
theorem lines_rest (s : Str) : Txt.split s nl = linesOf s ++ [restOf s] := by
  unfold linesOf restOf
  have h : Txt.split s nl ≠ [] := split_ne
  generalize Txt.split s nl = l at h
  induction l with
  | nil => exact absurd rfl h
  | cons a l ih =>
    cases l with
    | nil => rfl
    | cons b l =>
      have := ih (by simp)
      show a :: b :: l = a :: ((b :: l).dropLast ++ [(b :: l).getLastD ""])
      rw [← this]
section
variable {P : Program} {w : World} {K : PySem.W.Frag} {mg : Str → Option Value} {base : Heap} {f C : Addr} {fd : FuncData} {M : Md} {σ : L2.St} {B : Hp} {te : TE} {V : Vl} {d : D}
theorem cut_last {l : List D} {x : D} : DL.cutD (l ++ [x]) none (some (-1)) = l := by
  unfold DL.cutD
  have h1 : HT.sIx (l ++ [x]).length (l ++ [x]).length (some (-1)) = l.length := by
    show (if (-1 : Int) < 0 then (-1 + (((l ++ [x]).length : Nat) : Int)).toNat else min (-1 : Int).toNat (l ++ [x]).length) = _
    rw [if_pos (by decide), List.length_append, List.length_singleton]
    omega
  rw [h1, HT.sIx_none, List.drop_zero, Nat.sub_zero]
  simp
theorem at_last {α : Type} {l : List α} {x : α} : atI (l ++ [x]) (-1) = some x := by
  unfold atI ixN
  rw [if_neg (by decide), List.length_append, List.length_singleton, if_pos (by omega)]
  show (l ++ [x])[(-1 + ((l.length + 1 : Nat) : Int)).toNat]? = some x
  rw [show (-1 + ((l.length + 1 : Nat) : Int)).toNat = l.length by omega]
  simp
def lnR (CT : Addr) : D → Res
  | .str s => .ok (.tup [.lst ((linesOf s).map .str), .str (restOf s)])
  | _ => .er CT "line" (.int 0)
def okS (d : D) : Prop := ∀ s, d = .str s → s.length ≤ 640 ∧ Asc s
abbrev Sp_lines_of (C CT : Addr) := SpQR (α := D) (fun d => [d]) (fun d => okV C d ∧ okS d) (lnR CT)
theorem ok_lines_of {CT : Addr} (F : Fun K "lines_of" "lines_of" s_lines_of f fd) (N : Bn mg) (v : VF K C) (X1 : ExF P w K mg base "BadText" CT "line") : FnOk P w K mg base (L2.CX P w) 3 f fd ["text"] (Sp_lines_of C CT) := by
  refine F.okX sc_lines_of (SpQR.len fun _ => rfl) (fun cdv A outer s H vs Q E hr h => ?_)
  obtain ⟨F0, d, tr, hd, ⟨p1, p2⟩, k1, k2⟩ := h
  obtain ⟨x, rfl, hx⟩ := one_inv hd
  refine ⟨_, pss_cons (ps_if (pt_not (pt_val (pe_callB call_isi (by rfl) N.isinstance (by decide +kernel) (pa_cons (pv 0) (pa_cons (pe_bltn (v := .ty "str") (by rfl) N.str (by decide +kernel) rfl) pa_nil))))) (pss_one (ps_rz rfl X1 hr (by decide) (takes_of rfl rfl rfl rfl) (pa_cons pe_int pa_nil))) pss_nil)
    (pss_cons (ps_set (i := 1) sc_lines_of.nd rfl (Or.inl rfl) (pe_split (pv 0) pe_str))
    (pss_one (ps_ret (pe_tup (pa_cons (pe_slice sl_list (pv 1) po_none (po_some (pe_un un_neg pe_int))) (pa_cons (pe_ix ix_seq (pv 1) (pe_un un_neg pe_int) (fun _ _ => rfl)) pa_nil)))))), ?_⟩
  refine r_if (b := !isStrD d) (Rn.begin (wd0 tr)) (et_not (et_val (ev_str' v p1 (ev_var rfl hx)))) (fun q B1 H1 e1 g1 R1 => ?_) (fun q B1 H1 e1 g1 R1 => ?_)
  · exact r_raise (W := fun cls d _ H => E cls d H) R1 ev_int (k2 CT "line" (.int 0) (by cases d <;> first | rfl | (cases q; done)))
  · cases d <;> first | (cases q; done) | skip
    rename_i z
    refine r_next ?_
    dsimp only
    have hz := (p2 z rfl).1
    have h640 := small640
    refine r_set (d := .lst ((linesOf z ++ [restOf z]).map .str)) R1 (ev_is (EvF.ev (ef_split (ev_var rfl (hx.mono e1.le)) ev_str (by decide +kernel) (by omega))) (by rw [← lines_rest]; rfl)) fun v B2 H2 e2 g2 R2 d2 => ?_
    rw [List.map_append] at d2
    refine r_ret R2 (ev_tup (ea_cons (ev_is (EvF.ev (ef_slL (ev_var rfl d2) eo_none (eo_some (ev_un ev_int ru_neg)))) (by rw [show (-1 : Int) = -1 from rfl]; exact congrArg D.lst cut_last)) (ea_cons (ev_op (ev_var rfl d2) (ev_un ev_int ru_neg) (rv_ix rfl at_last)) ea_nil)) (show (2 : Nat) ≤ sizeLine by decide)) fun v H3 g3 h3 => k1 (.tup [.lst ((linesOf z).map .str), .str (restOf z)]) rfl v H3 g3 h3
/-! ### modulus_of -/
def modOf (s : Str) : Option Int := match Txt.split s " " with
  | [a, b] => if a = "reading" then (match intOf b with
    | some n => if n > 1 then some n else none
    | none => none) else none
  | _ => none
abbrev Sp_modulus_of := SpQ (α := Str) (fun s => [.str s]) (fun s => s.length ≤ 640) fun s => oI (modOf s)
theorem ok_modulus_of {a1 : Addr} (F : Fun K "modulus_of" "modulus_of" s_modulus_of f fd) (N : Bn mg) (g1 : mg "integer_of" = some (.ref a1)) (O1 : OkF P w K mg base 2 a1 ["word"] Sp_integer_of) : FnOk P w K mg base CX0 3 f fd ["line"] Sp_modulus_of := by
  refine F.ok sc_modulus_of (SpQ.len fun _ => rfl) (fun cdv A outer s H vs Q E hr h => ?_)
  obtain ⟨F0, z, tr, hd, p1, k⟩ := h
  obtain ⟨x, rfl, hx⟩ := one_inv hd
  have hz : z.length ≤ 640 := p1
  have h640 := small640
  refine ⟨_, pss_cons (ps_set (i := 1) sc_modulus_of.nd rfl (Or.inl rfl) (pe_split (pv 0) pe_str))
    (pss_cons (ps_if (pw_or (pt_cmpR op_ne (pe_callB call_len_seq (by rfl) N.len PySem.boot_len (pa_cons (pv 1) pa_nil)) pe_int (nomark _)) (pw_or1 (pt_cmpR op_ne (pe_ix ix_seq (pv 1) pe_int (fun _ _ => rfl)) pe_str (nomark _)))).pt (pss_one (ps_ret pe_non)) pss_nil)
    (pss_cons (ps_set (i := 2) sc_modulus_of.nd rfl (Or.inl rfl) (pe_c O1 hr g1 (pa_cons (pe_ix ix_seq (pv 1) pe_int (fun _ _ => rfl)) pa_nil)))
    (pss_one (ps_ret (pe_ifExp (pw_and (pt_cmpR op_notN (pv 2) pe_non (nomark _)) (pw_and1 (pt_cmpR op_gt (pv 2) pe_int (nomark _)))).pt (pv 2) pe_non))))), ?_⟩
  have no : modOf z = none → ∀ (v : L2.V) (H2 : Hp), Go M0 F0 H H2 → Dt (Hd M0 F0 H2) .non v → Q v H2 := fun e v H2 g2 h2 => k v H2 g2 (by show Dt _ (oI (modOf z)) v; rw [e]; exact h2)
  refine r_set (Rn.begin (wd0 tr)) (EvF.ev (ef_split (ev_var rfl hx) ev_str (by decide +kernel) (by omega))) fun v B1 H1 e1 g1 R1 d1 => ?_
  cases hw : Txt.split z " " with
  | nil => exact absurd hw split_ne
  | cons a l =>
    rw [hw] at d1
    refine r_if (b := !decide ((((a :: l).map D.str).length : Nat) = (2 : Int)) || !decide (a = "reading")) R1 (et_or (et_cmp (ev_op (ev_cb (ea_cons (ev_var rfl d1) ea_nil) (rc_len rfl)) ev_int rv_neI)) fun q => et_cmp (ev_op (ev_op (ev_var rfl d1) ev_int (rv_ix rfl (d := .str a) (by unfold atI ixN; rw [if_pos (Int.le_refl 0), if_pos (by rw [List.length_map, List.length_cons]; omega)]; rfl))) ev_str rv_neS)) (fun q B2 H2 e2 g2 R2 => ?_) (fun q B2 H2 e2 g2 R2 => ?_)
    · refine r_ret R2 ev_non (no ?_)
      unfold modOf
      rw [hw]
      rw [Bool.or_eq_true] at q
      match l, q with
      | [], _ => rfl
      | [b], q =>
        have q' : a ≠ "reading" := by
          rcases q with q | q
          · simp at q
          · simpa using q
        show (if a = "reading" then _ else none) = none
        rw [if_neg q']
      | _ :: _ :: _, _ => rfl
    · rw [Bool.or_eq_false_iff] at q
      have q1 : l.length = 1 := by
        have := q.1
        rw [List.length_map, List.length_cons] at this
        have := of_decide_eq_true (by simpa using this : decide (((l.length + 1 : Nat) : Int) = 2) = true)
        omega
      have q2 : a = "reading" := by simpa using q.2
      match l, q1 with
      | [b], _ =>
      subst q2
      have hb : b.length ≤ 640 := Nat.le_trans (split_len (b := " ") (by rw [hw]; simp)) hz
      have em : modOf z = match intOf b with
          | some n => if n > 1 then some n else none
          | none => none := by
        unfold modOf
        rw [hw]
        show (if ("reading" : Str) = "reading" then _ else none) = _
        rw [if_pos rfl]
      refine r_next ?_
      dsimp only
      refine r_set R2 (ev_callQ (inp := fun s => [.str s]) b (ea_cons (ev_op (ev_var rfl (d1.mono e2.le)) ev_int (rv_ix rfl rfl)) ea_nil) hb) fun v3 B3 H3 e3 g3 R3 d3 => ?_
      cases hi : intOf b with
      | none =>
        rw [hi] at em d3
        exact r_ret R3 (ev_if (b := false) (et_is (et_and (a := false) (b := false) (et_cmp (ev_op (ev_var rfl d3) ev_non rv_notN)) fun q => by cases q) rfl) (fun q => by cases q) fun _ => ev_non) (no em)
      | some n =>
        rw [hi] at em d3
        refine r_ret (De := EQ Q) (d := oI (if n > 1 then some n else none)) R3 (ev_if (b := decide (n > 1)) (et_is (et_and (a := true) (b := decide (n > 1)) (et_cmp (ev_op (ev_var rfl d3) ev_non rv_notN)) fun q => et_cmp (ev_op (ev_var rfl d3) ev_int (rv_I0 rfl))) rfl) (fun q => ev_is (ev_var rfl d3) (by rw [if_pos (of_decide_eq_true q)])) fun q => ev_is ev_non (by rw [if_neg (of_decide_eq_false q)]; rfl)) fun v H4 g4 h4 => k v H4 g4 (by show Dt _ (oI (modOf z)) v; rw [em]; exact h4)
end
end Pg

namespace Pg
open PySem PySem.Spec PyProof.Rows L2 DL RX
/-! ### a reading's text read, plain -/
def stepL (V : Vl) (m : Int) (k : Nat) (line : Str) : Option Int :=
  if k > V.ns.length then none else match Txt.split line " " with
  | [a, b, c] => if a = "weigh" ∧ V.ns[k - 1]? = some b then (match intOf c with
    | some n => if 0 ≤ n ∧ n < m then some n else none
    | none => none) else none
  | _ => none
def parseR (V : Vl) (m : Int) : Nat → List Str → Nat ⊕ List Int
  | _, [] => .inr []
  | k, l :: ls => match stepL V m k l with
    | none => .inl (k + 1)
    | some n => match parseR V m (k + 1) ls with
      | .inl e => .inl e
      | .inr ns => .inr (n :: ns)
def appR (nums : List Int) : Nat ⊕ List Int → Nat ⊕ List Int
  | .inl e => .inl e
  | .inr r => .inr (nums ++ r)
def fD (V : Vl) (nums : List Int) : D := .dic ((V.ns.take nums.length).map .inr) (nums.map .int)
def badEnd (V : Vl) (rest : Str) (m : Int) (nums : List Int) : Bool := !decide (rest = "") || (decide (nums.length < V.ns.length) || !readOk V (.int m) (fD V nums))
def parse (V : Vl) (s : Str) : Nat ⊕ (Int × List Int) := match linesOf s with
  | [] => .inl 1
  | l0 :: ls => match modOf l0 with
    | none => .inl 1
    | some m => match parseR V m 1 ls with
      | .inl e => .inl e
      | .inr nums => if badEnd V (restOf s) m nums = true then .inl ((linesOf s).length + 1) else .inr (m, nums)
theorem enumD_get {l : List D} {i : Nat} {d : D} (h : (enumD l)[i]? = some d) : ∃ e, l[i]? = some e ∧ d = .tup [.int (i : Nat), e] := by
  unfold enumD at h
  rw [List.getElem?_map] at h
  obtain ⟨j, hj, rfl⟩ := Option.map_eq_some_iff.mp h
  obtain ⟨hlt, rfl⟩ := List.getElem?_eq_some_iff.mp hj
  rw [List.length_range] at hlt
  refine ⟨l[i], List.getElem?_eq_getElem hlt, ?_⟩
  rw [List.getElem_range, List.getD_eq_getElem?_getD, List.getElem?_eq_getElem hlt]
  rfl
theorem letters_asc : letters.cps.toList.all (fun c => decide (c < 128)) = true := by decide +kernel
theorem name_asc {s : Str} (h : isName s = true) : Asc s := fun c hc => by
  unfold isName at h
  rw [Bool.and_eq_true, List.all_eq_true] at h
  have h1 := of_decide_eq_true (h.2 c hc)
  have := letters_asc
  rw [List.all_eq_true] at this
  exact of_decide_eq_true (this c h1)
theorem weigh_ok : PyData.strOk "weigh" = true := by decide +kernel
theorem step_far {V : Vl} {m : Int} {k : Nat} {line : Str} (h : k > V.ns.length) : stepL V m k line = none := if_pos h
theorem step_many {V : Vl} {m : Int} {k : Nat} {line : Str} (h : (Txt.split line " ").length ≠ 3) : stepL V m k line = none := by
  unfold stepL
  split
  · rfl
  · match hw : Txt.split line " ", h with
    | [], _ => rfl
    | [_], _ => rfl
    | [_, _], _ => rfl
    | [_, _, _], h => exact absurd rfl h
    | _ :: _ :: _ :: _ :: _, _ => rfl
theorem step_three {V : Vl} {m : Int} {k : Nat} {line a b c : Str} (hk : ¬ k > V.ns.length) (hw : Txt.split line " " = [a, b, c]) : stepL V m k line = if a = "weigh" ∧ V.ns[k - 1]? = some b then (match intOf c with
    | some n => if 0 ≤ n ∧ n < m then some n else none
    | none => none) else none := by
  unfold stepL
  rw [if_neg hk, hw]
section
variable {V : Vl} {s l0 line : Str} {ls rest : List Str} {m : Int} {nums : List Int} {k e : Nat}
theorem parse_nil (h : linesOf s = []) : parse V s = .inl 1 := by unfold parse; rw [h]
theorem parse_nomod (h : linesOf s = l0 :: ls) (hm : modOf l0 = none) : parse V s = .inl 1 := by unfold parse; rw [h]; dsimp only; rw [hm]
theorem parse_err (h : linesOf s = l0 :: ls) (hm : modOf l0 = some m) (hp : parseR V m 1 ls = .inl e) : parse V s = .inl e := by unfold parse; rw [h]; dsimp only; rw [hm]; dsimp only; rw [hp]
theorem parse_end (h : linesOf s = l0 :: ls) (hm : modOf l0 = some m) (hp : parseR V m 1 ls = .inr nums) : parse V s = if badEnd V (restOf s) m nums = true then .inl ((linesOf s).length + 1) else .inr (m, nums) := by
  unfold parse; rw [h]; dsimp only; rw [hm]; dsimp only; rw [hp]
theorem app_stop (hs : stepL V m k line = none) : appR nums (parseR V m k (line :: rest)) = .inl (k + 1) := by
  unfold parseR; rw [hs]; rfl
theorem app_go {n : Int} (hs : stepL V m k line = some n) : appR nums (parseR V m k (line :: rest)) = appR (nums ++ [n]) (parseR V m (k + 1) rest) := by
  rw [parseR]; rw [hs]; dsimp only
  cases parseR V m (k + 1) rest with
  | inl e => rfl
  | inr r => simp [appR]
end
section
variable {P : Program} {w : World} {K : PySem.W.Frag} {mg : Str → Option Value} {base : Heap} {f C : Addr} {fd : FuncData} {M : Md} {σ : L2.St} {B : Hp} {te : TE} {V : Vl} {d : D}
def Sp_read_reading (C CB CT : Addr) : Sp := fun vs H Q E => ∃ F d t, (∀ b ∈ F, ∃ o, H b = some o ∧ notT o = true) ∧ DtL (Hd M0 F H) [d, t] vs ∧ (okV C d ∧ okV C t ∧ okS t ∧ (isVilD d = true → ∃ V, d = vD C V ∧ VOk V)) ∧
  (isVilD d = false → ∀ dx y H', Go M0 F H H' → H' dx = some (.xd [("village", y)]) → Dt (Hd M0 F H') d y → E (.ref CB) (some dx) H') ∧
  (isVilD d = true → isStrD t = false → ∀ dx y H', Go M0 F H H' → H' dx = some (.xd [("line", y)]) → Dt (Hd M0 F H') (.int 0) y → E (.ref CT) (some dx) H') ∧
  (∀ V s, d = vD C V → t = .str s → (∀ k, parse V s = .inl k → ∀ dx y H', Go M0 F H H' → H' dx = some (.xd [("line", y)]) → Dt (Hd M0 F H') (.int (k : Nat)) y → E (.ref CT) (some dx) H') ∧
    ∀ m nums, parse V s = .inr (m, nums) → ∀ tp p es H', Fr H p → Fr H tp → tp ≠ p → Go M0 F H H' → H' tp = some (.tup [.int m, .ref p]) → H' p = some (.dK es) → es.map (·.1) = V.ns.map .inr → es.map (·.2) = nums.map L2.V.int → Q (.ref tp) H')
theorem spRd_len {C CB CT : Addr} : ∀ (vs : List L2.V) (H : Hp) (Q : VK) (E : XK), Sp_read_reading C CB CT vs H Q E → vs.length = 2 := fun vs H Q E ⟨F, d, t, _, h, _⟩ => by rw [h.length]; rfl
abbrev N_read_reading : List Str := ["village", "text", "lines", "rest", "modulus", "found", "index", "line", "words", "number"]
theorem ok_read_reading {CB CT a1 a2 a3 a4 a5 : Addr} (F : Fun K "read_reading" "read_reading" s_read_reading f fd) (N : Bn mg) (T : VlF K C) (X1 : ExF P w K mg base "BadText" CT "line")
    (g1 : mg "check_village" = some (.ref a1)) (O1 : OkX P w K mg base 3 a1 ["village"] (Sp_check_village C CB)) (g2 : mg "lines_of" = some (.ref a2)) (O2 : OkX P w K mg base 3 a2 ["text"] (Sp_lines_of C CT))
    (g3 : mg "modulus_of" = some (.ref a3)) (O3 : OkF P w K mg base 3 a3 ["line"] Sp_modulus_of) (g4 : mg "integer_of" = some (.ref a4)) (O4 : OkF P w K mg base 2 a4 ["word"] Sp_integer_of)
    (g5 : mg "is_reading_of" = some (.ref a5)) (O5 : OkF P w K mg base 4 a5 ["village", "thing"] (Sp_is_reading_of C)) : FnOk P w K mg base (L2.CX P w) 5 f fd ["village", "text"] (Sp_read_reading C CB CT) := by
  refine F.okX sc_read_reading spRd_len (fun cdv A outer s H vs Q E hr h => ?_)
  obtain ⟨F0, d, t, tr, hd, ⟨p1, p2, p3, p4⟩, kb, kl, kt⟩ := h
  obtain ⟨x, y, rfl, hx, hy⟩ := two_inv hd
  have hu := hu_of hr
  have h640 := small640
  refine ⟨_, pss_cons (ps_expr (pe_cx (E := E) O1 (hr.mono (by decide)) g1 (takes_of rfl rfl rfl rfl) (fun _ _ _ _ h => h) (pa_cons (pv 0) pa_nil)))
    (pss_cons (ps_asg (g := gTup K 2 (gCons (gName 2) (gCons (gName 3) gNil))) (pe_cx (E := E) O2 (hr.mono (by decide)) g2 (takes_of rfl rfl rfl rfl) (fun _ _ _ _ h => h) (pa_cons (pv 1) pa_nil)) (by exact pg_tup (by rfl) (pgs_cons (pg_name (i := 2) sc_read_reading.nd rfl (Or.inl rfl)) (pgs_cons (pg_name (i := 3) sc_read_reading.nd rfl (Or.inl rfl)) pgs_nil))))
    (pss_cons (ps_par (i := 4) (j := 5) (by rfl) sc_read_reading.nd rfl rfl (by decide) rfl rfl (pa_cons pe_non (pa_cons pe_dnewK pa_nil)) (by rfl))
    (pss_cons (ps_for (g := gTup K 2 (gCons (gName 6) (gCons (gName 7) gNil))) (passes_of rfl) (by rfl) (pi_enum (by rfl) N.enumerate (pa_cons (pv 2) pa_nil)) (by exact pg_tup (by rfl) (pgs_cons (pg_name (i := 6) sc_read_reading.nd rfl (Or.inl rfl)) (pgs_cons (pg_name (i := 7) sc_read_reading.nd rfl (Or.inl rfl)) pgs_nil)))
      (pss_one (ps_if (pt_cmpR op_eq (pv 6) pe_int (nomark _))
        (pss_cons (ps_set (i := 4) sc_read_reading.nd rfl (Or.inl rfl) (pe_c O3 (hr.mono (by decide)) g3 (pa_cons (pv 7) pa_nil))) (pss_one (ps_if (pt_cmpR op_isN (pv 4) pe_non (nomark _)) (pss_one (ps_rz rfl X1 hr (by decide) (takes_of rfl rfl rfl rfl) (pa_cons pe_int pa_nil))) pss_nil)))
        (pss_cons (ps_set (i := 8) sc_read_reading.nd rfl (Or.inl rfl) (pe_split (pv 7) pe_str))
        (pss_cons (ps_if (pw_or (pt_cmpR op_gt (pv 6) (pe_callB call_len_seq (by rfl) N.len PySem.boot_len (pa_cons (pe_fld (pv 0) rfl) pa_nil)) (nomark _)) (pw_or1 (pt_cmpR op_ne (pe_callB call_len_seq (by rfl) N.len PySem.boot_len (pa_cons (pv 8) pa_nil)) pe_int (nomark _)))).pt (pss_one (ps_rz rfl X1 hr (by decide) (takes_of rfl rfl rfl rfl) (pa_cons (pe_op op_add (pv 6) pe_int) pa_nil))) pss_nil)
        (pss_cons (ps_if (pt_cmpR (op_neD hr.units) (pe_slice sl_list (pv 8) po_none (po_some pe_int)) (pe_lst (pa_cons pe_str (pa_cons (pe_ix ix_seq (pe_fld (pv 0) rfl) (pe_op op_sub (pv 6) pe_int) (fun _ _ => rfl)) pa_nil))) (nomark _)) (pss_one (ps_rz rfl X1 hr (by decide) (takes_of rfl rfl rfl rfl) (pa_cons (pe_op op_add (pv 6) pe_int) pa_nil))) pss_nil)
        (pss_cons (ps_set (i := 9) sc_read_reading.nd rfl (Or.inl rfl) (pe_c O4 (hr.mono (by decide)) g4 (pa_cons (pe_ix ix_seq (pv 8) pe_int (fun _ _ => rfl)) pa_nil)))
        (pss_cons (ps_if (pw_or (pt_cmpR op_isN (pv 9) pe_non (nomark _)) (pw_or1 (pt_not (pt_chain op_le op_lt pe_int (pv 9) (pv 4))))).pt (pss_one (ps_rz rfl X1 hr (by decide) (takes_of rfl rfl rfl rfl) (pa_cons (pe_op op_add (pv 6) pe_int) pa_nil))) pss_nil)
        (pss_one (ps_dput hu (pv 5) (pe_ix ix_seq (pv 8) pe_int (fun _ _ => rfl)) (pv 9) rfl))))))))))
    (pss_cons (ps_if (pw_or (pt_cmpR op_ne (pv 3) pe_str (nomark _)) (pw_or (pt_cmpR op_lt (pe_callB call_lenR (by rfl) N.len PySem.boot_len (pa_cons (pv 5) pa_nil)) (pe_callB call_len_seq (by rfl) N.len PySem.boot_len (pa_cons (pe_fld (pv 0) rfl) pa_nil)) (nomark _)) (pw_or1 (pt_not (pt_val (pe_c O5 hr g5 (pa_cons (pv 0) (pa_cons (pe_tup (pa_cons (pv 4) (pa_cons (pv 5) pa_nil))) pa_nil)))))))).pt (pss_one (ps_rz rfl X1 hr (by decide) (takes_of rfl rfl rfl rfl) (pa_cons (pe_op op_add (pe_callB call_len_seq (by rfl) N.len PySem.boot_len (pa_cons (pv 2) pa_nil)) pe_int) pa_nil))) pss_nil)
    (pss_one (ps_ret (pe_tup (pa_cons (pv 4) (pa_cons (pv 5) pa_nil))))))))), ?_⟩
  cases qv : isVilD d with
  | false => exact r_callQR (Rn.begin (wd0 tr)) d (ea_cons (ev_var rfl hx) ea_nil) p1 (show chkV CB d = .er CB "village" d by unfold chkV; rw [qv]; rfl) (kb qv)
  | true =>
  obtain ⟨V, rfl, pV⟩ := p4 qv
  refine r_drop (Rn.begin (wd0 tr)) (ev_callQR (vD C V) (ea_cons (ev_var rfl hx) ea_nil) p1 (show chkV CB (vD C V) = .ok .non from rfl)) fun B1 H1 e1 g1' R1 => ?_
  have hn : V.ns.length ≤ 16 := pV.n
  have h16 := small16
  cases qs : isStrD t with
  | false => exact r_callQR R1 t (ea_cons (ev_var rfl (hy.mono e1.le)) ea_nil) ⟨p2, p3⟩ (show lnR CT t = .er CT "line" (.int 0) by cases t <;> first | rfl | (cases qs; done)) (kl rfl qs)
  | true =>
  cases t with
  | str z =>
  obtain ⟨kE, kO⟩ := kt V z rfl rfl
  have hz : z.length ≤ 640 := (p3 z rfl).1
  have hA : Asc z := (p3 z rfl).2
  have lmem : ∀ {l : Str}, l ∈ linesOf z → l ∈ Txt.split z nl := fun h => by rw [lines_rest]; exact List.mem_append.mpr (.inl h)
  refine r_tg (R' := fun σ2 B2 => ∃ vl vr, σ2 = [some x, some y, some vl, some vr, none, none, none, none, none, none] ∧ Dt B2 (.lst ((linesOf z).map .str)) vl ∧ Dt B2 (.str (restOf z)) vr) R1 (ev_callQR (.str z) (ea_cons (ev_var rfl (hy.mono e1.le)) ea_nil) ⟨p2, p3⟩ (show lnR CT (.str z) = .ok _ from rfl)) (fun B2 e2 => tg_tup rfl (tgs_cons (tg_name fun B3 v3 e3 d3 => tgs_cons (tg_name fun B4 v4 e4 d4 => tgs_nil fun B5 e5 => ⟨v3, v4, rfl, (d3.mono e4.le).mono e5.le, d4.mono e5.le⟩)))) ?_
  rintro σ2 B2 H2 e2 g2' R2 ⟨vl, vr, rfl, dl, dr⟩
  refine r_parGN R2 ev_non eg_dict0 fun v4 p es B3 H3 fq e3 R3 nF nS nF0 hq hk hl dv4 => ?_
  have ev4 : v4 = .non := dv4
  subst ev4
  have ees : es = [] := List.map_eq_nil_iff.mp hk
  subst ees
  have dl3 := dl.mono e3.le
  have dx3 : Dt B3 (vD C V) x := ((hx.mono e1.le).mono e2.le).mono e3.le
  refine r_for R3 (ei_enum (ea_cons (ev_var rfl dl3) ea_nil)) (fun i σ B' H' => ∃ v4 es v6 v7 v8 v9, σ = [some x, some y, some vl, some vr, some v4, some (.ref p), v6, v7, v8, v9] ∧ Rn M0 F0 H (p :: F0) B' H' ∧ H' p = some (.dK es) ∧
      ((i = 0 ∧ v4 = .non ∧ es = []) ∨ ∃ m nums l0 ls, linesOf z = l0 :: ls ∧ 1 ≤ i ∧ modOf l0 = some m ∧ v4 = .int m ∧ nums.length = i - 1 ∧ i - 1 ≤ V.ns.length ∧ parseR V m 1 ls = appR nums (parseR V m i (ls.drop (i - 1))) ∧ es.map (·.1) = (V.ns.take (i - 1)).map .inr ∧ es.map (·.2) = nums.map L2.V.int))
    (fun i σ B' H' ⟨_, _, _, _, _, _, _, R, _⟩ => R) (fun B' H' e g2 R => ⟨.non, [], none, none, none, none, rfl, R, by rw [g2.x p List.mem_cons_self]; exact hq, .inl ⟨rfl, rfl, rfl⟩⟩) ?_ ?_
  · rintro i d v σ' Bb B1' H1' B4 H4 eb eb1 hd' ⟨v4, es, v6, v7, v8, v9, rfl, Ri, hp, inv⟩ e4 g4' R4 dv
    obtain ⟨e0, he0, rfl⟩ := enumD_get hd'
    rw [List.getElem?_map] at he0
    obtain ⟨line, hline, rfl⟩ := Option.map_eq_some_iff.mp he0
    have hlm : line ∈ linesOf z := List.mem_of_getElem? hline
    have hll : line.length ≤ 640 := Nat.le_trans (split_len (lmem hlm)) hz
    have hAl : Asc line := hA.split (lmem hlm)
    have tg : Tg M0 (gTup K 2 (gCons (gName 6) (gCons (gName 7) gNil))) [some x, some y, some vl, some vr, some v4, some (.ref p), v6, v7, v8, v9] B4 (.tup [.int (i : Nat), .str line]) (fun σ2 B => σ2 = [some x, some y, some vl, some vr, some v4, some (.ref p), some (.int (i : Nat)), some (.str line), v8, v9]) :=
      tg_tup rfl (tgs_cons (tg_name fun B5 v5 e5 d5 => tgs_cons (tg_name fun B6 v6 e6 d6 => tgs_nil fun B7 e7 => by rw [show v5 = .int (i : Nat) from d5, show v6 = .str line from d6]; rfl)))
    refine tg (p :: F0) B4 H4 v _ (Ex.refl _) R4.w dv ?_
    rintro σ2 rfl
    have ex4 : Ex B3 B4 := (eb.trans eb1).trans e4
    have dx4 := dx3.mono ex4.le
    have hp4 : H4 p = some (.dK es) := by rw [g4'.x p List.mem_cons_self]; exact hp
    refine r_if1 (b := decide (((i : Nat) : Int) = 0)) R4 (et_cmp (ev_op (d1 := .int (i : Nat)) (ev_var rfl rfl) ev_int rv_eqI)) (fun q B5 H5 e5 g5 R5 => ?_) (fun q B5 H5 e5 g5 R5 => ?_)
    · have qi : i = 0 := by have := of_decide_eq_true q; omega
      subst qi
      obtain ⟨rfl, rfl⟩ : v4 = .non ∧ es = [] := by
        rcases inv with ⟨_, a, b⟩ | ⟨_, _, _, _, _, h1, _⟩
        · exact ⟨a, b⟩
        · exact absurd h1 (by omega)
      obtain ⟨ls, hls⟩ : ∃ ls, linesOf z = line :: ls := by
        cases hl : linesOf z with
        | nil => rw [hl] at hline; cases hline
        | cons a l =>
          rw [hl] at hline
          cases hline
          exact ⟨l, rfl⟩
      refine r_set R5 (ev_callQ (inp := fun s => [.str s]) line (ea_cons (d := .str line) (ev_var rfl rfl) ea_nil) hll) fun v5 B6 H6 e6 g6 R6 d6 => ?_
      refine r_if1 R6 (et_cmp (ev_op (ev_var rfl d6) ev_non rv_isN)) (fun q B7 H7 e7 g7 R7 => ?_) (fun q B7 H7 e7 g7 R7 => ?_)
      · cases hm : modOf line with
        | none => exact r_raise (W := fun cls d _ H => E cls d H) R7 ev_int (kE 1 (parse_nomod hls hm))
        | some m => rw [hm] at q; cases q
      · cases hm : modOf line with
        | none => rw [hm] at q; cases q
        | some m =>
          rw [hm] at d6
          have ev5 : v5 = .int m := d6
          subst ev5
          refine ⟨B7, (((eb1.trans e4).trans e5).trans e6).trans e7, .int m, [], some (.int (0 : Nat)), some (.str line), v8, v9, rfl, R7, ?_, .inr ⟨m, [], line, ls, hls, Nat.le_refl _, hm, rfl, rfl, Nat.zero_le _, ?_, rfl, rfl⟩⟩
          · rw [g7.x p List.mem_cons_self, g6.x p List.mem_cons_self, g5.x p List.mem_cons_self]; exact hp4
          · show parseR V m 1 ls = appR [] (parseR V m 1 ls)
            cases parseR V m 1 ls <;> rfl
    · have qi : i ≠ 0 := by have := of_decide_eq_false q; omega
      obtain ⟨m, nums, l0, ls, hls, hi1, hm, rfl, hnl, hin, hpar, hek, hev⟩ := inv.resolve_left fun z => qi z.1
      have hdrop : ls.drop (i - 1) = line :: ls.drop i := by
        rw [hls] at hline
        have hl2 : ls[i - 1]? = some line := by
          rw [show i = (i - 1) + 1 by omega, List.getElem?_cons_succ] at hline
          exact hline
        obtain ⟨hlt, hx⟩ := List.getElem?_eq_some_iff.mp hl2
        rw [List.drop_eq_getElem_cons hlt, hx, show i - 1 + 1 = i by omega]
      rw [hdrop] at hpar
      have bad : stepL V m i line = none → ∀ dx y H', Go M0 F0 H H' → H' dx = some (.xd [("line", y)]) → Dt (Hd M0 F0 H') (.int (((i : Nat) : Int) + 1)) y → E (.ref CT) (some dx) H' := fun hs => by
        have := kE (i + 1) (parse_err hls hm (by rw [hpar, app_stop hs]))
        rw [Int.natCast_add] at this
        exact this
      have ivar : ∀ {B' : Hp} {σ : L2.St}, σ[6]? = some (some (.int (i : Nat))) → Ev M0 (tVar 6) σ B' (.int (i : Nat)) := fun h => ev_var h rfl
      refine r_set R5 (EvF.ev (ef_split (a := line) (ev_var rfl rfl) ev_str (by decide +kernel) (by omega))) fun v5 B6 H6 e6 g6 R6 d6 => ?_
      have dx6 := (dx4.mono e5.le).mono e6.le
      refine r_if (b := decide (((i : Nat) : Int) > (V.ns.length : Nat)) || !decide (((Txt.split line " ").length : Nat) = (3 : Int))) R6 (et_or (et_cmp ?_) fun _ => et_cmp ?_) (fun q B7 H7 e7 g7 R7 => ?_) (fun q B7 H7 e7 g7 R7 => ?_)
      · refine ev_op (ivar rfl) (ev_cb (ea_cons (ev_houses T (ev_var rfl dx6)) ea_nil) (rc_len rfl)) ?_
        rw [List.length_map]; exact rv_I0 rfl
      · refine ev_op (ev_cb (ea_cons (ev_var rfl d6) ea_nil) (rc_len rfl)) ev_int ?_
        rw [List.length_map]; exact rv_neI
      · refine r_raise (W := fun cls d _ H => E cls d H) R7 (ev_op (ivar rfl) ev_int (rv_I0 rfl)) (bad ?_)
        rw [Bool.or_eq_true] at q
        rcases q with q | q
        · have := of_decide_eq_true q
          exact step_far (by omega)
        · refine step_many fun h3 => ?_
          rw [h3] at q; simp at q
      · rw [Bool.or_eq_false_iff] at q
        have q1 : ¬ i > V.ns.length := fun h => by have := of_decide_eq_false q.1; omega
        have q2 : (Txt.split line " ").length = 3 := by
          have := of_decide_eq_true (by simpa using q.2 : decide (((Txt.split line " ").length : Nat) = (3 : Int)) = true)
          omega
        obtain ⟨a, b, c, hw⟩ : ∃ a b c, Txt.split line " " = [a, b, c] := by
          match hw : Txt.split line " ", q2 with
          | [a, b, c], _ => exact ⟨a, b, c, rfl⟩
        have hst := step_three (m := m) q1 hw
        rw [hw] at d6
        have smem : ∀ {q : Str}, q ∈ [a, b, c] → q ∈ Txt.split line " " := fun h => by rw [hw]; exact h
        obtain ⟨h, hh⟩ : ∃ h, V.ns[i - 1]? = some h := ⟨_, List.getElem?_eq_getElem (by omega)⟩
        have hhm : h ∈ V.ns := List.mem_of_getElem? hh
        refine r_next ?_
        dsimp only
        have d7 := d6.mono e7.le
        have dx7 := dx6.mono e7.le
        refine r_if (b := !decide ([a, b] = [("weigh" : Str), h])) R7 (et_cmp (ev_op (EvF.ev (ef_slL (ev_var rfl d7) eo_none (eo_some ev_int))) (EvF.ev (ef_lst (ea_cons ev_str (ea_cons (ev_op (ev_houses T (ev_var rfl dx7)) (ev_op (ivar rfl) ev_int (rv_I0 rfl)) (rv_ix (d := .str h) rfl ?_)) ea_nil)) (show (2 : Nat) ≤ sizeLine by decide))) (rv_neLS (l := [a, b]) (m := [("weigh" : Str), h]) ?_ ?_))) (fun q B8 H8 e8 g8 R8 => ?_) (fun q B8 H8 e8 g8 R8 => ?_)
        · unfold atI ixN
          rw [if_pos (by omega), List.length_map, if_pos (by omega)]
          show (V.ns.map D.str)[(((i : Nat) : Int) - 1).toNat]? = _
          rw [show (((i : Nat) : Int) - 1).toNat = i - 1 by omega, List.getElem?_map, hh]; rfl
        · simp only [List.all_cons, List.all_nil, Bool.and_true]
          rw [(hAl.split (smem (by simp))).ok, (hAl.split (smem (by simp))).ok]; rfl
        · simp only [List.all_cons, List.all_nil, Bool.and_true]
          rw [(name_asc (pV.nm h hhm)).ok, weigh_ok]; rfl
        · refine r_raise (W := fun cls d _ H => E cls d H) R8 (ev_op (ivar rfl) ev_int (rv_I0 rfl)) (bad ?_)
          rw [hst, if_neg]
          rintro ⟨rfl, hb⟩
          rw [hh] at hb
          cases hb
          simp at q
        · have qe : [a, b] = [("weigh" : Str), h] := by simpa using q
          have qa : a = "weigh" := by injection qe
          have qb : b = h := by injection qe with _ z; injection z
          subst qa; subst qb
          rw [if_pos ⟨rfl, hh⟩] at hst
          refine r_next ?_
          dsimp only
          have hcl : c.length ≤ 640 := Nat.le_trans (split_len (smem (by simp))) hll
          refine r_set R8 (ev_callQ (inp := fun s => [.str s]) c (ea_cons (ev_op (ev_var rfl (d7.mono e8.le)) ev_int (rv_ix rfl rfl)) ea_nil) hcl) fun v9' B9 H9 e9 g9 R9 d9 => ?_
          cases hi : intOf c with
          | none =>
            rw [hi] at hst d9
            refine r_if (b := true) R9 (et_is (et_or (a := true) (b := false) (et_cmp (ev_op (ev_var rfl d9) ev_non rv_isN)) fun q => by cases q) rfl) (fun _ B10 H10 e10 g10 R10 => ?_) (fun q => by cases q)
            exact r_raise (W := fun cls d _ H => E cls d H) R10 (ev_op (ivar rfl) ev_int (rv_I0 rfl)) (bad hst)
          | some n =>
            rw [hi] at hst d9
            have ev9 : v9' = .int n := d9
            subst ev9
            dsimp only at hst
            refine r_if (b := !(decide (0 ≤ n) && decide (n < m))) R9 (et_is (et_or (a := false) (et_cmp (ev_op (ev_var rfl d9) ev_non rv_isN)) fun _ => et_not (et_cmp (ev_chainR (d2 := .int n) (d3 := .int m) ev_int (ev_var rfl rfl) (rv_I0 rfl) fun _ => ⟨ev_var rfl rfl, rv_I0 rfl⟩))) (by simp)) (fun q B10 H10 e10 g10 R10 => ?_) (fun q B10 H10 e10 g10 R10 => ?_)
            · refine r_raise (W := fun cls d _ H => E cls d H) R10 (ev_op (ivar rfl) ev_int (rv_I0 rfl)) (bad ?_)
              rw [hst, if_neg]
              rintro ⟨z1, z2⟩
              simp [z1, z2] at q
            · have q' : 0 ≤ n ∧ n < m := by simpa using q
              rw [if_pos q'] at hst
              refine r_next ?_
              dsimp only
              have hp10 : H10 p = some (.dK es) := by rw [g10.x p List.mem_cons_self, g9.x p List.mem_cons_self, g8.x p List.mem_cons_self, g7.x p List.mem_cons_self, g6.x p List.mem_cons_self, g5.x p List.mem_cons_self]; exact hp4
              have hesl : es.length = i - 1 := by
                have := congrArg List.length hev
                rw [List.length_map, List.length_map] at this
                omega
              refine r_dput1 (d := .int n) (q := .inr b) R10 List.mem_cons_self nS nF0 rfl hp10 (by omega) (ev_var rfl rfl) (ev_op (ev_var rfl (((d7.mono e8.le).mono e9.le).mono e10.le)) ev_int (rv_ix rfl rfl)) fun v B11 H11 e11 R11 hb11 dv11 => ?_
              have ev11 : v = .int n := dv11
              subst ev11
              have hnew : (.inr b : L2.Key) ∉ es.map (·.1) := by
                rw [hek]
                intro hm'
                obtain ⟨b', hb', e'⟩ := List.mem_map.mp hm'
                cases e'
                have nd := pV.nd.sublist (List.take_sublist (i - 1 + 1) V.ns)
                rw [List.take_succ, hh, List.nodup_append] at nd
                exact nd.2.2 _ hb' _ (by simp) rfl
              rw [DL.putK_new hnew] at R11 ⊢
              refine ⟨B11, (((((((eb1.trans e4).trans e5).trans e6).trans e7).trans e8).trans e9).trans e10).trans e11, .int m, es ++ [(.inr b, .int n)], _, _, _, _, rfl, R11, upd_same, .inr ⟨m, nums ++ [n], l0, ls, hls, by omega, hm, rfl, by rw [List.length_append, hnl, List.length_singleton]; omega, by omega, ?_, ?_, ?_⟩⟩
              · rw [hpar, app_go hst, show i + 1 - 1 = i by omega]
              · rw [List.map_append, hek, show i + 1 - 1 = (i - 1) + 1 by omega, map_take_snoc _ hh]; rfl
              · rw [List.map_append, hev, List.map_append]; rfl
  · rintro σ' B' H' eB ⟨v4, es, v6, v7, v8, v9, rfl, Ri, hp, inv⟩
    rw [enumD_length, List.length_map] at inv
    obtain ⟨R', e'⟩ := Ri.tell nF0
    have eB' : Ex B3 (Hd M0 F0 H') := eB.trans e'
    have dxB := dx3.mono eB'.le
    have dlB := dl3.mono eB'.le
    have drB := (dr.mono e3.le).mono eB'.le
    have hpv : Hd M0 F0 H' p = some (.dK es) := hd_some.mpr ⟨⟨nS, nF⟩, hp⟩
    rcases inv with ⟨h0, rfl, rfl⟩ | ⟨m, nums, l0, ls, hls, hi1, hm, rfl, hnl, hin, hpar, hek, hev⟩
    · have hl0 : linesOf z = [] := List.length_eq_zero_iff.mp h0
      have df : Dt (Hd M0 F0 H') (.dic [] []) (.ref p) := dic_mk (.inl hpv) DtL.nil
      have hpos : 0 < V.ns.length := List.length_pos_iff.mpr pV.n0
      refine r_if (b := true) R' (et_is (et_or (a := !decide (restOf z = "")) (b := true) (et_cmp (ev_op (ev_var rfl drB) ev_str rv_neS)) fun _ => et_is (et_or (a := true) (b := false) (et_is (et_cmp (ev_op (ev_cb (ea_cons (ev_var rfl df) ea_nil) rc_lenD) (ev_cb (ea_cons (ev_houses T (ev_var rfl dxB)) ea_nil) (rc_len rfl)) (rv_I0 rfl))) (by rw [List.length_map]; exact decide_eq_true (by show (0 : Int) < _; omega))) fun q => by cases q) rfl) (by simp)) (fun _ B10 H10 e10 g10 R10 => ?_) (fun q => by cases q)
      refine r_raise (W := fun cls d _ H => E cls d H) (d := .int (((((linesOf z).map D.str).length : Nat) : Int) + 1)) R10 (ev_op (ev_cb (ea_cons (ev_var rfl (dlB.mono e10.le)) ea_nil) (rc_len rfl)) ev_int (rv_I0 rfl)) ?_
      rw [hl0]
      exact kE 1 (parse_nil hl0)
    · have hls2 : ls.length = (linesOf z).length - 1 := by rw [hls]; rfl
      have hpar2 : parseR V m 1 ls = .inr nums := by
        rw [hpar, List.drop_of_length_le (by omega)]
        show Sum.inr (nums ++ []) = _
        rw [List.append_nil]
      have df : Dt (Hd M0 F0 H') (fD V nums) (.ref p) := by
        have := dic_mk (.inl hpv : Rd (Hd M0 F0 H') p (.dK es)) (l := nums.map .int) (by rw [hev]; exact DtL.ofInts nums)
        rw [hek, ← hnl] at this
        exact this
      have hend := parse_end (V := V) hls hm hpar2
      have okf : okR C (.tup [.int m, fD V nums]) := ⟨trivial, fun l hl u hu => by
        cases hl
        rcases List.mem_cons.mp hu with rfl | hu
        · exact ⟨trivial, fun ks l e => by cases e⟩
        · rw [List.mem_singleton] at hu
          subst hu
          refine ⟨trivial, fun ks l e => ?_⟩
          cases e
          refine ⟨by rw [List.length_map, List.length_map, List.length_take]; omega, nodup_inr (pV.nd.sublist (List.take_sublist _ _)), fun u hu => ?_⟩
          obtain ⟨j, _, rfl⟩ := List.mem_map.mp hu
          trivial⟩
      refine r_if (b := badEnd V (restOf z) m nums) R' (et_or (et_cmp (ev_op (ev_var rfl drB) ev_str rv_neS)) fun _ => et_or (et_is (et_cmp (ev_op (ev_cb (ea_cons (ev_var rfl df) ea_nil) rc_lenD) (ev_cb (ea_cons (ev_houses T (ev_var rfl dxB)) ea_nil) (rc_len rfl)) (rv_I0 rfl))) (by rw [List.length_map, List.length_map, decide_eq_decide]; omega)) fun _ => et_not (et_val (ev_is (ev_callQ (inp := inpVD C) (V, .tup [.int m, fD V nums]) (ea_cons (ev_var rfl dxB) (ea_cons (ev_tup (ea_cons (ev_var rfl rfl) (ea_cons (ev_var rfl df) ea_nil)) (show (2 : Nat) ≤ sizeLine by decide)) ea_nil)) ⟨pV, okf⟩) rfl))) (fun q B10 H10 e10 g10 R10 => ?_) (fun q B10 H10 e10 g10 R10 => ?_)
      · rw [if_pos q] at hend
        refine r_raise (W := fun cls d _ H => E cls d H) (d := .int (((((linesOf z).map D.str).length : Nat) : Int) + 1)) R10 (ev_op (ev_cb (ea_cons (ev_var rfl (dlB.mono e10.le)) ea_nil) (rc_len rfl)) ev_int (rv_I0 rfl)) ?_
        rw [List.length_map]
        have := kE _ hend
        rw [Int.natCast_add] at this
        exact this
      · rw [if_neg (by rw [q]; simp)] at hend
        refine r_next ?_
        dsimp only
        refine ⟨_, rfl, _, rfl, (show (2 : Nat) ≤ sizeLine by decide), fun tp htp => ?_⟩
        have hp10 : H10 p = some (.dK es) := (hd_some.mp (R10.w.e p _ (e10 p _ hpv rfl) rfl)).2
        have htp' : tp ≠ p := fun z => by rw [z, hp10] at htp; cases htp
        have hnn : nums.length = V.ns.length := by
          unfold badEnd at q
          rw [Bool.or_eq_false_iff, Bool.or_eq_false_iff] at q
          have := of_decide_eq_false q.2.1
          omega
        refine kO m nums hend tp p es _ fq (R10.fr (Fr.of htp)) htp' ((R10.step (R10.w.new htp _)).go) upd_same (by rw [upd_ne (fun z => htp' z.symm)]; exact hp10) ?_ hev
        rw [hek, ← hnl, hnn, List.take_length]
  | _ => cases qs
end
end Pg

namespace Pg
open PySem PySem.Spec PyProof.Rows L2 DL RX
def strI (i : Int) : Str := Str.ofString (toString i)
def wS : D → Str
  | .str s => s
  | .int i => strI i
  | _ => ""
def rowS (r : List D) : Str := Txt.join " " (r.map wS) ++ "\n"
def rowsS (rows : List (List D)) : Str := Txt.join "" (rows.map rowS)
def wordOk (d : D) : Prop := (∃ s, d = .str s ∧ s.length ≤ 16) ∨ ∃ i : Int, d = .int i ∧ 0 ≤ i ∧ i < 100
def rowsOk (rows : List (List D)) : Prop := rows.length ≤ 20 ∧ ∀ r ∈ rows, r.length ≤ 4 ∧ ∀ d ∈ r, wordOk d
theorem strI_len {i : Int} (h0 : 0 ≤ i) (h1 : i < 100) : (strI i).length ≤ 16 := by
  have h : ∀ n : Nat, n < 100 → (strI ((n : Nat) : Int)).length ≤ 16 := by decide +kernel
  have := h i.toNat (by omega)
  rw [Int.toNat_of_nonneg h0] at this
  exact this
theorem wS_len {d : D} (h : wordOk d) : (wS d).length ≤ 16 := by
  rcases h with ⟨s, rfl, hs⟩ | ⟨i, rfl, h0, h1⟩
  · exact hs
  · exact strI_len h0 h1
theorem sum_len {α : Type} {l : List α} {g : α → Nat} {c : Nat} (h : ∀ x ∈ l, g x ≤ c) : (l.map g).sum ≤ l.length * c := by
  induction l with
  | nil => simp
  | cons a l ih =>
    have h1 := h a List.mem_cons_self
    have h2 := ih fun x hx => h x (List.mem_cons_of_mem _ hx)
    rw [List.map_cons, List.sum_cons, List.length_cons, Nat.add_mul]
    omega
theorem txt_join_len (sep : Str) (ts : List Str) {c : Nat} (h : ∀ t ∈ ts, t.length ≤ c) : (Txt.join sep ts).length ≤ ts.length * (c + sep.length) := by
  have h1 := StrLaws.join_length_le sep ts
  rw [← TL.join_eq] at h1
  have h2 := sum_len (g := fun t : Str => t.length) h
  rw [Nat.mul_add]
  omega
theorem cat_len (a b : Str) : (a ++ b).length = a.length + b.length := by
  rw [← str_len, ← str_len, ← str_len]
  show (TL.tl (a ++ b)).length = _
  rw [TL.tl_append, List.length_append]
section
variable {P : Program} {w : World} {K : PySem.W.Frag} {mg : Str → Option Value} {base : Heap} {f C : Addr} {fd : FuncData} {M : Md} {σ : L2.St} {B : Hp} {te : TE} {V : Vl} {d : D}
abbrev rStrW : List L2.V → Hp → VK → Prop := fun xs H Q => (∃ a, xs = [.str a] ∧ Q (.str a) H) ∨ ∃ i, xs = [.int i] ∧ i.natAbs.log2 < 1920 ∧ Q (.str (toString i)) H
abbrev rAdS : R2 := fun x y H Q => ∃ i j, x = .str i ∧ y = .str j ∧ i.length + j.length ≤ sizeLine ∧ Q (.str (i ++ j)) H
abbrev rJoin (K : PySem.W.Frag) : L2.V → List L2.V → Hp → VK → Prop := fun x xs H Q => ∃ a p, ∃ ys : List Str, x = .str a ∧ xs = [.ref p] ∧ (SqL K H p (ys.map L2.V.str) ∨ SqT K H p (ys.map L2.V.str)) ∧ (ys.map (·.length)).sum + ys.length * a.length ≤ 16777216 ∧ Q (.str (Txt.join a ys)) H
theorem rc_strW (h : wordOk d) : RC M rStrW [d] (.str (wS d)) := fun F B H vs Q W e k => by
  obtain ⟨y, rfl, hy⟩ := one_inv e
  rcases h with ⟨s, rfl, hs⟩ | ⟨i, rfl, h0, h1⟩
  · exact .inl ⟨s, by rw [(show y = .str s from hy)], k _ H (Go.refl W.i) rfl⟩
  · refine .inr ⟨i, by rw [(show y = .int i from hy)], ?_, k _ H (Go.refl W.i) rfl⟩
    have : i.natAbs.log2 ≤ i.natAbs := Nat.log2_le_self _
    omega
def inLC : List Stmt → Scope
  | [.Return (some (.Call _ [.ListComp _ _ s _] _ _)) _] => s
  | _ => defScope s_rows_text
abbrev N_rows_text : List Str := ["rows", "word", "row"]
abbrev Sp_rows_text := SpQ (α := List (List D)) (fun rows => [.lst (rows.map D.lst)]) rowsOk fun rows => .str (rowsS rows)
theorem ok_rows_text (F : Fun K "rows_text" "rows_text" s_rows_text f fd) (N : Bn mg) : FnOk P w K mg base CX0 2 f fd ["rows"] Sp_rows_text := by
  refine F.ok sc_rows_text (SpQ.len fun _ => rfl) (fun cdv A outer s H vs Q E hr h => ?_)
  obtain ⟨F0, rows, tr, hd, ⟨p1, p2⟩, k⟩ := h
  obtain ⟨x, rfl, hx⟩ := one_inv hd
  refine ⟨_, pss_one (ps_ret (pe_join pe_str (pe_lc (te := tOp rAdS (tM1 (rJoin K) (tC (.str " ")) (tLc (iList K (tVar 2)) (gName 1) tYes (tCB rStrW (tCons (tVar 1) tNil)) [1])) (tC (.str "\n"))) (own := [("row", 2)]) (g := gName 2) (by rfl) sc_rows_text.nd (pi_list (pv 0)) (blkOk_by (own := [("row", 2)]) (N := N_rows_text) (sc := defScope s_rows_text) (by decide +kernel)) (fun _ _ _ _ _ => pg_name (i := 2) sc_rows_text.nd rfl (Or.inl rfl)) (fun _ _ _ _ _ => pts_nil) (fun _ _ _ _ _ => (by exact (pe_op op_add_str (pe_join pe_str (pe_lc (own := [("word", 1)]) (g := gName 1) (by rfl) sc_rows_text.nd (pi_list (pv 2)) (blkOk_by (own := [("word", 1)]) (N := N_rows_text) (sc := inLC (defBody s_rows_text)) (by decide +kernel)) (fun _ _ _ _ _ => pg_name (i := 1) sc_rows_text.nd rfl (Or.inl rfl)) (fun _ _ _ _ _ => pts_nil) (fun _ _ _ _ _ => pe_callTy (CallR.or SkE.call_str_str call_str_int) (by rfl) N.str (by decide +kernel) (pa_cons (pv 1) pa_nil)))) pe_str)))))), ?_⟩
  have p1' : rows.length ≤ 20 := p1
  have h640 := small640
  have rlen : ∀ r ∈ rows, (rowS r).length ≤ 69 := fun r hr => by
    have h1 := txt_join_len " " (r.map wS) (c := 16) (fun t ht => by
      obtain ⟨d, hd, rfl⟩ := List.mem_map.mp ht
      exact wS_len ((p2 r hr).2 d hd))
    rw [List.length_map] at h1
    unfold rowS
    rw [cat_len]
    have e1 : (" " : Str).length = 1 := by decide +kernel
    have e2 : ("\n" : Str).length = 1 := by decide +kernel
    have := (p2 r hr).1
    rw [e1] at h1
    rw [e2]
    omega
  refine r_ret (d := .str (rowsS rows)) (Rn.begin (wd0 tr)) (ev_join (ys := rows.map rowS) (d := .lst ((rows.map rowS).map .str)) ev_str (EvF.ev (ef_is (ef_lcmA (ys := rows) (en := D.lst) (fun r => .str (rowS r)) (ei_list (ev_var rfl hx)) (by omega) ?_) ?_)) rfl ?_) k
  · intro r hr'
    refine turn_name (fun _ => rfl) fun B1 z1 e1 d1 => ⟨et_yes, fun _ => ?_⟩
    have hj : (Txt.join " " (r.map wS)).length + 1 = (rowS r).length := by
      unfold rowS
      rw [cat_len, show ("\n" : Str).length = 1 by decide +kernel]
    have := rlen r hr'
    refine ev_op (ev_join (ys := r.map wS) (d := .lst ((r.map wS).map .str)) ev_str (EvF.ev (ef_is (ef_lcm (ys := r) (fun d => .str (wS d)) (ei_list (ev_var rfl d1)) (by have := (p2 r hr').1; omega) ?_) ?_)) rfl ?_) ev_str (rv_addS (by rw [show ("\n" : Str).length = 1 by decide +kernel]; omega))
    · intro d hd'
      refine turn_name (fun _ => rfl) fun B2 z2 e2 d2 => ⟨et_yes, fun _ => ?_⟩
      exact ev_cb (ea_cons (ev_var rfl d2) ea_nil) (rc_strW ((p2 r hr').2 d hd'))
    · rw [List.map_map]; rfl
    · have h1 := sum_len (l := r.map wS) (g := fun t : Str => t.length) (c := 16) (fun t ht => by
        obtain ⟨d, hd, rfl⟩ := List.mem_map.mp ht
        exact wS_len ((p2 r hr').2 d hd))
      rw [List.length_map] at h1 ⊢
      rw [show (" " : Str).length = 1 by decide +kernel]
      have := (p2 r hr').1
      omega
  · rw [List.map_map]; rfl
  · have h1 := sum_len (l := rows.map rowS) (g := fun t : Str => t.length) (c := 69) (fun t ht => by
      obtain ⟨r, hr, rfl⟩ := List.mem_map.mp ht
      exact rlen r hr)
    rw [List.length_map] at h1 ⊢
    rw [show ("" : Str).length = 0 by decide +kernel]
    omega
end
end Pg

namespace Pg
open PySem PySem.Spec PyProof.Rows L2 DL RX
section
variable {P : Program} {w : World} {K : PySem.W.Frag} {mg : Str → Option Value} {base : Heap} {f C : Addr} {fd : FuncData} {M : Md} {σ : L2.St} {B : Hp} {te : TE} {V : Vl} {d : D}
/-! ### ordered -/
structure Ord where
  V : Vl
  p : D
  g : Str → Int
abbrev Sp_ordered (C : Addr) := SpQG (α := Ord) (fun b => [vD C b.V, b.p]) (fun b => VOk b.V ∧ DF b.V b.g b.p) (fun b => b.V.ns.map .inr) fun b => b.V.ns.map fun a => .int (b.g a)
theorem r_retG {F0 F : List Addr} {H0 H : Hp} {De : Ends} {ks : List L2.Key} {ds : List D} (R : Rn M F0 H0 F B H) (h : EvG M te σ B ks ds)
    (k : ∀ p es H', Fr H0 p → Go M F0 H0 H' → H' p = some (.dK es) → es.map (·.1) = ks → DtL (Hd M (p :: F0) H') ds (es.map (·.2)) → De.rt (.ref p) H') : tRet te De σ H :=
  h F H _ R.w fun p es H' f g e hk hd => k p es H' (R.fr f) (R.step g).go e hk (hd.mono (hd_sub fun b hb => by
    rcases List.mem_cons.mp hb with z | z
    · rw [z]; exact List.mem_cons_self
    · exact List.mem_cons_of_mem _ (R.s b z)).le)
theorem ok_ordered (F : Fun K "ordered" "ordered" s_ordered f fd) (N : Bn mg) (T : VlF K C) : FnOk P w K mg base CX0 2 f fd ["village", "purse"] (Sp_ordered C) := by
  refine F.ok sc_ordered (SpQG.len fun _ => rfl) (fun cdv A outer s H vs Q E hr h => ?_)
  obtain ⟨F0, ⟨V, p, g⟩, tr, hd, ⟨pV, dp⟩, k⟩ := h
  obtain ⟨x, y, rfl, hx, hy⟩ := two_inv hd
  have pV : VOk V := pV
  have hn : V.ns.length ≤ 16 := pV.n
  have h16 := small16
  have hu := hu_of hr
  refine ⟨_, pss_one (ps_ret (pe_dc (own := [("house", 2)]) (g := gName 2) (by rfl) sc_ordered.nd (pi_list (pe_fld (pv 0) rfl)) (blkOk_by (own := [("house", 2)]) (N := ["village", "purse", "house"]) (sc := defScope s_ordered) (by decide +kernel)) (fun _ _ _ _ _ => pg_name (i := 2) sc_ordered.nd rfl (Or.inl rfl)) (fun _ _ _ _ _ => pts_nil) (fun _ _ _ _ _ => (pv 2)) (fun _ _ _ _ _ => (pe_dget hu (pv 1) (pv 2) (fun _ _ => rfl))))), ?_⟩
  refine r_retG (Rn.begin (wd0 tr)) (eg_dcm (ys := V.ns) (en := D.str) .inr (fun a => .int (g a)) (ei_list (ev_houses T (ev_var rfl hx))) (by omega) (nodup_inr pV.nd) fun a ha F' B' H' u Q' e' W' du k' => ?_) k
  exact k' _ rfl et_yes fun _ => ⟨ev_var rfl du, ev_df dp (ev_var rfl (hy.mono e'.le)) (ev_var rfl du) ha⟩
/-! ### reading_text -/
def rdRows (V : Vl) (m : Int) (g : Str → Int) : List (List D) := [.str "reading", .int m] :: V.ns.map fun a => [.str "weigh", .str a, .int (g a)]
def rdS (V : Vl) (m : Int) (g : Str → Int) : Str := rowsS (rdRows V m g)
def Sp_reading_text (C CB CR : Addr) : Sp := fun vs H Q E => ∃ F d r, (∀ b ∈ F, ∃ o, H b = some o ∧ notT o = true) ∧ DtL (Hd M0 F H) [d, r] vs ∧ (okV C d ∧ okR C r ∧ (isVilD d = true → ∃ V, d = vD C V ∧ VOk V ∧ ∀ m u, sq r = some [.int m, u] → readD V r = true → m < 100)) ∧
  (isVilD d = false → ∀ dx y H', Go M0 F H H' → H' dx = some (.xd [("village", y)]) → Dt (Hd M0 F H') d y → E (.ref CB) (some dx) H') ∧
  (∀ V, d = vD C V → (readD V r = false → ∀ dx y H', Go M0 F H H' → H' dx = some (.xd [("reading", y)]) → Dt (Hd M0 F H') r y → E (.ref CR) (some dx) H') ∧
    ∀ m ks l, sq r = some [.int m, .dic ks l] → readD V r = true → ∀ v H', Go M0 F H H' → Dt (Hd M0 F H') (.str (rdS V m (lkI ks l))) v → Q v H')
theorem spRt_len {C CB CR : Addr} : ∀ (vs : List L2.V) (H : Hp) (Q : VK) (E : XK), Sp_reading_text C CB CR vs H Q E → vs.length = 2 := fun vs H Q E ⟨F, d, t, _, h, _⟩ => by rw [h.length]; rfl
theorem read_shape {V : Vl} {r : D} (h : readD V r = true) : ∃ m ks l, sq r = some [.int m, .dic ks l] ∧ readOk V (.int m) (.dic ks l) = true := by
  unfold readD at h
  split at h
  · rename_i m u hs
    unfold readOk at h
    split at h
    · rename_i n ks l
      exact ⟨n, ks, l, hs, h⟩
    · cases h
  · cases h
theorem read_parts {V : Vl} {m : Int} {ks : List L2.Key} {l : List D} (h : readOk V (.int m) (.dic ks l) = true) : 2 ≤ m ∧ countsD V (.dic ks l) = true ∧ ∀ x ∈ l, numD x = true ∧ iD x < m := by
  have h : (decide (2 ≤ m) && (countsD V (.dic ks l) && ((l.all fun x => numD x && decide (iD x < m)) && _))) = true := h
  rw [Bool.and_eq_true, Bool.and_eq_true, Bool.and_eq_true, List.all_eq_true] at h
  refine ⟨of_decide_eq_true h.1, h.2.1, fun x hx => ?_⟩
  have := h.2.2.1 x hx
  rw [Bool.and_eq_true] at this
  exact ⟨this.1, of_decide_eq_true this.2⟩
theorem name_len {s : Str} (h : isName s = true) : s.length < 9 := by
  unfold isName at h
  rw [Bool.and_eq_true] at h
  exact (of_decide_eq_true h.1).2
theorem lk_mem : ∀ {ks : List L2.Key} {l : List D} {q : L2.Key} {d : D}, lk ks l q = some d → d ∈ l
  | [], l, q, d, h => by cases l <;> cases h
  | k :: ks, [], q, d, h => by cases h
  | k :: ks, x :: l, q, d, h => by
    unfold lk at h
    split at h
    · cases h; exact List.mem_cons_self
    · exact List.mem_cons_of_mem _ (lk_mem h)
abbrev N_reading_text : List Str := ["village", "reading", "found", "house", "number"]
theorem ok_reading_text {CB CR a1 a2 a3 a4 : Addr} (F : Fun K "reading_text" "reading_text" s_reading_text f fd) (N : Bn mg) (T : VlF K C) (X1 : ExF P w K mg base "BadReading" CR "reading")
    (g1 : mg "check_village" = some (.ref a1)) (O1 : OkX P w K mg base 3 a1 ["village"] (Sp_check_village C CB)) (g2 : mg "is_reading_of" = some (.ref a2)) (O2 : OkF P w K mg base 4 a2 ["village", "thing"] (Sp_is_reading_of C))
    (g3 : mg "ordered" = some (.ref a3)) (O3 : OkF P w K mg base 2 a3 ["village", "purse"] (Sp_ordered C)) (g4 : mg "rows_text" = some (.ref a4)) (O4 : OkF P w K mg base 2 a4 ["rows"] Sp_rows_text) : FnOk P w K mg base (L2.CX P w) 5 f fd ["village", "reading"] (Sp_reading_text C CB CR) := by
  refine F.okX sc_reading_text spRt_len (fun cdv A outer s H vs Q E hr h => ?_)
  obtain ⟨F0, d, r, tr, hd, ⟨p1, p2, p3⟩, kb, kt⟩ := h
  obtain ⟨x, y, rfl, hx, hy⟩ := two_inv hd
  have hu := hu_of hr
  have h16 := small16
  refine ⟨_, pss_cons (ps_expr (pe_cx (E := E) O1 (hr.mono (by decide)) g1 (takes_of rfl rfl rfl rfl) (fun _ _ _ _ h => h) (pa_cons (pv 0) pa_nil)))
    (pss_cons (ps_if (pt_not (pt_val (pe_c O2 hr g2 (pa_cons (pv 0) (pa_cons (pv 1) pa_nil))))) (pss_one (ps_rz rfl X1 hr (by decide) (takes_of rfl rfl rfl rfl) (pa_cons (pv 1) pa_nil))) pss_nil)
    (pss_cons (ps_set (i := 2) sc_reading_text.nd rfl (Or.inl rfl) (pe_lst (pa_cons (pe_lst (pa_cons pe_str (pa_cons (pe_ix ix_seq (pv 1) pe_int (fun _ _ => rfl)) pa_nil))) pa_nil)))
    (pss_one (ps_ret (pe_c O4 (hr.mono (by decide)) g4 (pa_cons (pe_op op_cat (pv 2) (pe_lc (own := [("house", 3), ("number", 4)]) (g := gTup K 2 (gCons (gName 3) (gCons (gName 4) gNil))) (by rfl) sc_reading_text.nd (pi_items (pe_fz (pe_c O3 (hr.mono (by decide)) g3 (pa_cons (pv 0) (pa_cons (pe_ix ix_seq (pv 1) pe_int (fun _ _ => rfl)) pa_nil))))) (blkOk_by (own := [("house", 3), ("number", 4)]) (N := N_reading_text) (sc := defScope s_reading_text) (by decide +kernel)) (fun _ _ _ _ _ => by exact pg_tup (by rfl) (pgs_cons (pg_name (i := 3) sc_reading_text.nd rfl (Or.inl rfl)) (pgs_cons (pg_name (i := 4) sc_reading_text.nd rfl (Or.inl rfl)) pgs_nil))) (fun _ _ _ _ _ => pts_nil) (fun _ _ _ _ _ => (pe_lst (pa_cons pe_str (pa_cons (pv 3) (pa_cons (pv 4) pa_nil))))))) pa_nil)))))), ?_⟩
  cases qv : isVilD d with
  | false => exact r_callQR (Rn.begin (wd0 tr)) d (ea_cons (ev_var rfl hx) ea_nil) p1 (show chkV CB d = .er CB "village" d by unfold chkV; rw [qv]; rfl) (kb qv)
  | true =>
  obtain ⟨V, rfl, pV, pm⟩ := p3 qv
  obtain ⟨kE, kO⟩ := kt V rfl
  refine r_drop (Rn.begin (wd0 tr)) (ev_callQR (vD C V) (ea_cons (ev_var rfl hx) ea_nil) p1 (show chkV CB (vD C V) = .ok .non from rfl)) fun B1 H1 e1 g1' R1 => ?_
  have hn : V.ns.length ≤ 16 := pV.n
  refine r_if (b := !readD V r) R1 (et_not (et_val (ev_callQ (inp := inpVD C) (V, r) (ea_cons (ev_var rfl (hx.mono e1.le)) (ea_cons (ev_var rfl (hy.mono e1.le)) ea_nil)) ⟨pV, p2⟩))) (fun q B2 H2 e2 g2 R2 => ?_) (fun q B2 H2 e2 g2 R2 => ?_)
  · exact r_raise (W := fun cls d _ H => E cls d H) R2 (ev_var rfl ((hy.mono e1.le).mono e2.le)) (kE (by simpa using q))
  · have q' : readD V r = true := by simpa using q
    obtain ⟨m, ks, l, hs, hrd⟩ := read_shape q'
    obtain ⟨hm2, hc, hal⟩ := read_parts hrd
    have hm := pm m _ hs q'
    have ow := p2.2 _ hs (.dic ks l) (by simp)
    obtain ⟨hkl, hkn, _⟩ := ow.2 ks l rfl
    have hdf := counts_df hkl hkn hc
    have hx2 := (hx.mono e1.le).mono e2.le
    have hy2 := (hy.mono e1.le).mono e2.le
    have wt : ∀ a ∈ V.ns, 0 ≤ lkI ks l a ∧ lkI ks l a < m := fun a ha => by
      obtain ⟨ks', l', e, hl⟩ := hdf
      cases e
      have := hal _ (lk_mem (hl a ha))
      exact ⟨of_decide_eq_true this.1, this.2⟩
    refine r_next ?_
    dsimp only
    refine r_set (d := .lst [.lst [.str "reading", .int m]]) R2 (EvF.ev (ef_lst (ea_cons (EvF.ev (ef_lst (ea_cons ev_str (ea_cons (ev_op (ev_var rfl hy2) ev_int (rv_ix hs rfl)) ea_nil)) (show (2 : Nat) ≤ sizeLine by decide))) ea_nil) (show (1 : Nat) ≤ sizeLine by decide))) fun v3 B3 H3 e3 g3 R3 d3 => ?_
    have hx3 := hx2.mono e3.le
    have hy3 := hy2.mono e3.le
    refine r_ret R3 (ev_callQ (inp := fun rows => [D.lst (rows.map D.lst)]) (rdRows V m (lkI ks l)) (ea_cons (ev_is (EvF.ev (ef_op (ev_var rfl d3) (EvF.ev (ef_is (ef_lcmA (ys := V.ns) (en := fun a => D.tup [.str a, .int (lkI ks l a)]) (fun a => .lst [.str "weigh", .str a, .int (lkI ks l a)]) ?_ (by omega) ?_) rfl)) (rvf_cat ?_))) ?_) ea_nil) ?_) fun v H4 g4 h4 => kO m ks l hs q' v H4 g4 h4
    · have := ei_itemsF (M := M0) (eg_callQ (E := E0) (inp := fun b : Ord => [vD C b.V, b.p]) (pre := fun b => VOk b.V ∧ DF b.V b.g b.p) (ks := fun b => b.V.ns.map .inr) (f := fun b => b.V.ns.map fun a => .int (b.g a)) (⟨V, .dic ks l, lkI ks l⟩ : Ord) (ea_cons (ev_var (σ := [some x, some y, some v3, none, none]) (i := 0) rfl hx3) (ea_cons (ev_op (ev_var (i := 1) rfl hy3) ev_int (rv_ix (K := K) (i := 1) (d := .dic ks l) hs rfl)) ea_nil)) ⟨pV, hdf⟩)
      have e : itemsD (V.ns.map Sum.inr) (V.ns.map fun a => D.int (lkI ks l a)) = V.ns.map fun a => D.tup [.str a, .int (lkI ks l a)] := by
        unfold itemsD
        rw [List.zip_map', List.map_map]; rfl
      rw [e] at this
      exact this
    · intro a ha
      refine turn_tg (tg_tup rfl (tgs_cons (tg_name fun B5 v6 e5 d6 => tgs_cons (tg_name fun B6 v7 e6 d7 => tgs_nil fun B7 e7 => ⟨rfl, et_yes, fun _ => ?_⟩))))
      exact EvF.ev (ef_lst (ea_cons ev_str (ea_cons (ev_var rfl ((d6.mono e6.le).mono e7.le)) (ea_cons (ev_var rfl (d7.mono e7.le)) ea_nil))) (show (3 : Nat) ≤ sizeLine by decide))
    · rw [List.length_map, List.length_singleton]; omega
    · unfold rdRows; rw [List.map_cons, List.map_map]; rfl
    · refine ⟨by unfold rdRows; rw [List.length_cons, List.length_map]; omega, fun r hr => ?_⟩
      unfold rdRows at hr
      rcases List.mem_cons.mp hr with rfl | hr
      · refine ⟨by simp, fun d hd => ?_⟩
        rcases List.mem_cons.mp hd with rfl | hd
        · exact .inl ⟨_, rfl, by decide +kernel⟩
        · rw [List.mem_singleton] at hd
          subst hd
          exact .inr ⟨m, rfl, by omega, hm⟩
      · obtain ⟨a, ha, rfl⟩ := List.mem_map.mp hr
        refine ⟨by simp, fun d hd => ?_⟩
        have hwa := wt a ha
        rcases List.mem_cons.mp hd with rfl | hd
        · exact .inl ⟨_, rfl, by decide +kernel⟩
        rcases List.mem_cons.mp hd with rfl | hd
        · have := name_len (pV.nm a ha)
          exact .inl ⟨_, rfl, by omega⟩
        · rw [List.mem_singleton] at hd
          subst hd
          exact .inr ⟨_, rfl, hwa.1, by omega⟩
/-! ### what only refuses in this law -/
abbrev Sp_village_text (C CB : Addr) := SpQR (α := D) (fun d => [d]) (fun d => okV C d ∧ isVilD d = false) fun d => .er CB "village" d
theorem ok_village_text {CB a1 : Addr} (F : Fun K "village_text" "village_text" s_village_text f fd) (g1 : mg "check_village" = some (.ref a1)) (O1 : OkX P w K mg base 3 a1 ["village"] (Sp_check_village C CB)) : FnOk P w K mg base (L2.CX P w) 4 f fd ["village"] (Sp_village_text C CB) := by
  refine F.okX sc_village_text (SpQR.len fun _ => rfl) (fun cdv A outer s H vs Q E hr h => ?_)
  obtain ⟨F0, d, tr, hd, ⟨p1, qv⟩, k1, k2⟩ := h
  obtain ⟨x, rfl, hx⟩ := one_inv hd
  refine ⟨_, pss_cons (ps_expr (pe_cx (E := E) O1 hr g1 (takes_of rfl rfl rfl rfl) (fun _ _ _ _ h => h) (pa_cons (pv 0) pa_nil))) pss_never, ?_⟩
  exact r_callQR (Rn.begin (wd0 tr)) d (ea_cons (ev_var rfl hx) ea_nil) p1 (show chkV CB d = .er CB "village" d by unfold chkV; rw [qv]; rfl) (k2 CB "village" d rfl)
abbrev Sp_read_purse (C CB : Addr) := SpQR (α := D × D) (fun p => [p.1, p.2]) (fun p => okV C p.1 ∧ isVilD p.1 = false) fun p => .er CB "village" p.1
theorem ok_read_purse {CB a1 : Addr} (F : Fun K "read_purse" "read_purse" s_read_purse f fd) (g1 : mg "check_village" = some (.ref a1)) (O1 : OkX P w K mg base 3 a1 ["village"] (Sp_check_village C CB)) : FnOk P w K mg base (L2.CX P w) 4 f fd ["village", "text"] (Sp_read_purse C CB) := by
  refine F.okX sc_read_purse (SpQR.len fun _ => rfl) (fun cdv A outer s H vs Q E hr h => ?_)
  obtain ⟨F0, ⟨d, t⟩, tr, hd, ⟨p1, qv⟩, k1, k2⟩ := h
  obtain ⟨x, y, rfl, hx, hy⟩ := two_inv hd
  refine ⟨_, pss_cons (ps_expr (pe_cx (E := E) O1 hr g1 (takes_of rfl rfl rfl rfl) (fun _ _ _ _ h => h) (pa_cons (pv 0) pa_nil))) pss_never, ?_⟩
  exact r_callQR (Rn.begin (wd0 tr)) d (ea_cons (ev_var rfl hx) ea_nil) p1 (show chkV CB d = .er CB "village" d by unfold chkV; rw [qv]; rfl) (k2 CB "village" d rfl)
theorem ok_purse_text {CB CP a1 : Addr} (F : Fun K "purse_text" "purse_text" s_purse_text f fd) (g1 : mg "check_purse" = some (.ref a1)) (O1 : OkX P w K mg base 4 a1 ["village", "purse"] (Sp_check_purse C CB CP)) : FnOk P w K mg base (L2.CX P w) 5 f fd ["village", "purse"] (Sp_check_purse C CB CP) := by
  refine F.okX sc_purse_text (SpQR.len fun _ => rfl) (fun cdv A outer s H vs Q E hr h => ?_)
  obtain ⟨F0, ⟨d, p⟩, tr, hd, pp, k1, k2⟩ := h
  obtain ⟨x, y, rfl, hx, hy⟩ := two_inv hd
  refine ⟨_, pss_cons (ps_expr (pe_cx (E := E) O1 hr g1 (takes_of rfl rfl rfl rfl) (fun _ _ _ _ h => h) (pa_cons (pv 0) (pa_cons (pv 1) pa_nil)))) pss_never, ?_⟩
  have er : ∃ C' fl r, chkP CB CP (d, p) = .er C' fl r := by
    unfold chkP
    split
    · exact ⟨_, _, _, rfl⟩
    · exact ⟨_, _, _, rfl⟩
  obtain ⟨C', fl, r, er⟩ := er
  exact r_callQR (Rn.begin (wd0 tr)) (d, p) (ea_cons (ev_var rfl hx) (ea_cons (ev_var rfl hy) ea_nil)) pp er (k2 C' fl r er)
/-! ### the errors' __init__ -/
theorem ok_init_of {x q : Str} {st : Stmt} {fl : Str} {CE : Addr} (T : OexC K CE) : True := trivial
end
end Pg

namespace Pg
open PySem PySem.Spec PyProof.Rows L2 DL RX
section
variable {P : Program} {w : World} {K : PySem.W.Frag} {mg : Str → Option Value} {base : Heap} {f C : Addr} {fd : FuncData} {M : Md} {σ : L2.St} {B : Hp} {te : TE} {V : Vl} {d : D}
/-! ### the errors' __init__ -/
theorem body_init {CE : Addr} {fl : Str} {Q : VK} {H : Hp} {E : XK} {vs : List L2.V} {σ : L2.St} (T : OexC K CE) (hno : PySem.W.findIn K (.ref CE) fl = some none) (h : SpI K CE fl vs H Q E) (hσ : ∀ a y, vs = [.ref a, y] → σ[0]? = some (some (.ref a)) ∧ σ[1]? = some (some y)) :
    tOst K fl (tVar 0) (tVar 1) { nx := fun _ H' => Q .non H', rt := Q } σ H := by
  obtain ⟨a, y, rfl, ha, k⟩ := h
  obtain ⟨h0, h1⟩ := hσ a y rfl
  exact ⟨y, h1, .ref a, h0, a, CE, rfl, T, hno, .inl ⟨ha, fun dx n ne => k dx n ne⟩⟩
theorem ok_initV {CE : Addr} (F : Fun K "__init__" "BadVillage.__init__" s_BadVillage_init f fd) (T : OexC K CE) (hno : PySem.W.findIn K (.ref CE) "village" = some none) : FnOk P w K mg base CX0 1 f fd ["self", "village"] (SpI K CE "village") := by
  refine F.ok sc_BadVillage_init spI_len (fun cdv A outer s H vs Q E hr h => ⟨_, pss_one (ps_ost (pv 0) (pv 1)), ?_⟩)
  exact body_init T hno h (fun a y e => by subst e; exact ⟨rfl, rfl⟩)
theorem ok_initP {CE : Addr} (F : Fun K "__init__" "BadPurse.__init__" s_BadPurse_init f fd) (T : OexC K CE) (hno : PySem.W.findIn K (.ref CE) "purse" = some none) : FnOk P w K mg base CX0 1 f fd ["self", "purse"] (SpI K CE "purse") := by
  refine F.ok sc_BadPurse_init spI_len (fun cdv A outer s H vs Q E hr h => ⟨_, pss_one (ps_ost (pv 0) (pv 1)), ?_⟩)
  exact body_init T hno h (fun a y e => by subst e; exact ⟨rfl, rfl⟩)
theorem ok_initR {CE : Addr} (F : Fun K "__init__" "BadReading.__init__" s_BadReading_init f fd) (T : OexC K CE) (hno : PySem.W.findIn K (.ref CE) "reading" = some none) : FnOk P w K mg base CX0 1 f fd ["self", "reading"] (SpI K CE "reading") := by
  refine F.ok sc_BadReading_init spI_len (fun cdv A outer s H vs Q E hr h => ⟨_, pss_one (ps_ost (pv 0) (pv 1)), ?_⟩)
  exact body_init T hno h (fun a y e => by subst e; exact ⟨rfl, rfl⟩)
theorem ok_initT {CE : Addr} (F : Fun K "__init__" "BadText.__init__" s_BadText_init f fd) (T : OexC K CE) (hno : PySem.W.findIn K (.ref CE) "line" = some none) : FnOk P w K mg base CX0 1 f fd ["self", "line"] (SpI K CE "line") := by
  refine F.ok sc_BadText_init spI_len (fun cdv A outer s H vs Q E hr h => ⟨_, pss_one (ps_ost (pv 0) (pv 1)), ?_⟩)
  exact body_init T hno h (fun a y e => by subst e; exact ⟨rfl, rfl⟩)
/-! ### first_bad_house -/
def namesOk (ns : List Str) : Prop := ns ≠ [] ∧ ns.length ≤ 16 ∧ ns.Nodup ∧ ∀ s ∈ ns, isName s = true
abbrev Sp_first_bad_house := SpQ (α := D × List Str) (fun p => [p.1]) (fun p => sq p.1 = some (p.2.map .str) ∧ namesOk p.2) fun _ => .non
abbrev N_first_bad_house : List Str := ["houses", "known", "index", "house"]
theorem okV_sq {l : List D} (h : sq d = some l) : okV C d := by cases d <;> first | trivial | (cases h)
theorem ok_first_bad_house {a1 a2 : Addr} (F : Fun K "first_bad_house" "first_bad_house" s_first_bad_house f fd) (N : Bn mg) (g1 : mg "is_list" = some (.ref a1)) (O1 : OkF P w K mg base 1 a1 ["thing"] (Sp_is_list C)) (g2 : mg "is_name" = some (.ref a2)) (O2 : OkF P w K mg base 1 a2 ["thing"] Sp_is_name) :
    FnOk P w K mg base CX0 2 f fd ["houses"] Sp_first_bad_house := by
  refine F.ok sc_first_bad_house (SpQ.len fun _ => rfl) (fun cdv A outer s H vs Q E hr h => ?_)
  obtain ⟨F0, ⟨d, ns⟩, tr, hd, ⟨hs, n0, hn, hnd, hnm⟩, k⟩ := h
  obtain ⟨x, rfl, hx⟩ := one_inv hd
  have hs : sq d = some (ns.map .str) := hs
  have hn : ns.length ≤ 16 := hn
  have hu := hu_of hr
  have h16 := small16
  refine ⟨_, pss_cons (ps_set (i := 1) sc_first_bad_house.nd rfl (Or.inl rfl) pe_dnewK)
    (pss_cons (ps_if (pw_or (pt_not (pt_val (pe_c O1 hr g1 (pa_cons (pv 0) pa_nil)))) (pw_or1 (pt_cmpR op_eq (pe_callB call_len_seq (by rfl) N.len PySem.boot_len (pa_cons (pv 0) pa_nil)) pe_int (nomark _)))).pt pss_never pss_nil)
    (pss_cons (ps_for (g := gTup K 2 (gCons (gName 2) (gCons (gName 3) gNil))) PassesOwn.never (by rfl) (pi_enumS (by rfl) N.enumerate (pa_cons (pv 0) pa_nil)) (by exact pg_tup (by rfl) (pgs_cons (pg_name (i := 2) sc_first_bad_house.nd rfl (Or.inl rfl)) (pgs_cons (pg_name (i := 3) sc_first_bad_house.nd rfl (Or.inl rfl)) pgs_nil)))
      (pss_cons (ps_if (pw_or (pt_not (pt_val (pe_c O2 hr g2 (pa_cons (pv 3) pa_nil)))) (pw_or1 (pt_cmp (pc_din hu (pv 3) (pv 1))))).pt pss_never pss_nil)
      (pss_one (ps_dput hu (pv 1) (pv 3) pe_bl rfl))))
    (pss_one (ps_ret pe_non)))), ?_⟩
  have hpos : 0 < ns.length := List.length_pos_iff.mpr n0
  have hil : isListD d = true := by cases d <;> first | rfl | (cases hs)
  refine r_setGN (Rn.begin (wd0 tr)) eg_dict0 fun q es B1 H1 fq e1 g1' R1 nF nS nF0 hq hk hl => ?_
  have ees : es = [] := List.map_eq_nil_iff.mp hk
  subst ees
  have hx1 := hx.mono e1.le
  refine r_if (b := false) R1 (et_is (et_or (a := false) (b := false) (et_is (et_not (et_val (ev_call1 (ev_var rfl hx1) (okV_sq hs) rfl))) (by rw [hil]; rfl)) fun _ => et_is (et_cmp (ev_op (ev_cb (ea_cons (ev_var rfl hx1) ea_nil) (rc_len hs)) ev_int rv_eqI)) (by rw [List.length_map]; exact decide_eq_false (by omega))) rfl) (fun q => by cases q) (fun _ B2 H2 e2 g2 R2 => ?_)
  refine r_next ?_
  dsimp only
  have hx2 := hx1.mono e2.le
  refine r_for R2 (ei_enumS hs (ea_cons (ev_var rfl hx2) ea_nil)) (fun i σ B' H' => ∃ es v2 v3, σ = [some x, some (.ref q), v2, v3] ∧ Rn M0 F0 H (q :: F0) B' H' ∧ H' q = some (.dK es) ∧ es.map (·.1) = (ns.take i).map .inr ∧ DtL B' ((ns.take i).map fun _ => D.bl true) (es.map (·.2)))
    (fun i σ B' H' ⟨_, _, _, _, R, _⟩ => R) (fun B' H' e g3 R => ⟨[], none, none, rfl, R, by rw [g3.x q List.mem_cons_self, g2.x q List.mem_cons_self]; exact hq, rfl, DtL.nil⟩) ?_ ?_
  · rintro i d' v σ' Bb B1' H1' B4 H4 eb eb1 hd' ⟨es, v2, v3, rfl, Ri, hp, hek, hel⟩ e4 g4' R4 dv
    obtain ⟨e0, he0, rfl⟩ := enumD_get hd'
    rw [List.getElem?_map] at he0
    obtain ⟨a, ha, rfl⟩ := Option.map_eq_some_iff.mp he0
    have ham : a ∈ ns := List.mem_of_getElem? ha
    have tg : Tg M0 (gTup K 2 (gCons (gName 2) (gCons (gName 3) gNil))) [some x, some (.ref q), v2, v3] B4 (.tup [.int (i : Nat), .str a]) (fun σ2 B => σ2 = [some x, some (.ref q), some (.int (i : Nat)), some (.str a)]) :=
      tg_tup rfl (tgs_cons (tg_name fun B5 v5 e5 d5 => tgs_cons (tg_name fun B6 v6 e6 d6 => tgs_nil fun B7 e7 => by rw [show v5 = .int (i : Nat) from d5, show v6 = .str a from d6]; rfl)))
    refine tg (q :: F0) B4 H4 v _ (Ex.refl _) R4.w dv ?_
    rintro σ2 rfl
    have hp4 : H4 q = some (.dK es) := by rw [g4'.x q List.mem_cons_self]; exact hp
    have hnew : (.inr a : L2.Key) ∉ es.map (·.1) := by
      rw [hek]
      intro hm
      obtain ⟨b, hb, e⟩ := List.mem_map.mp hm
      cases e
      have nd := hnd.sublist (List.take_sublist (i + 1) ns)
      rw [List.take_succ, ha, List.nodup_append] at nd
      exact nd.2.2 _ hb _ (by simp) rfl
    have hesl : es.length ≤ ns.length := by
      have := congrArg List.length hek
      rw [List.length_map, List.length_map, List.length_take] at this
      omega
    have hname := hnm a ham
    -- known is seen for the test
    obtain ⟨R4', e4'⟩ := R4.tell nF0
    have hv4 : Hd M0 F0 H4 q = some (.dK es) := hd_some.mpr ⟨⟨nS, nF⟩, hp4⟩
    have dk4 : Dt (Hd M0 F0 H4) (.dic (es.map (·.1)) ((ns.take i).map fun _ => D.bl true)) (.ref q) := dic_mk (.inl hv4) ((hel.mono e4.le).mono e4'.le)
    refine r_if (b := false) R4' (et_is (et_or (a := false) (b := false) (et_is (et_not (et_val (ev_call1 (d := .str a) (ev_var rfl rfl) ⟨a, rfl, by have := name_len hname; omega⟩ rfl))) (by show (!isName a) = false; rw [hname]; rfl)) fun _ => et_is (et_val (ev_din (q := .inr a) (ev_var rfl rfl) (ev_var rfl dk4))) (by
      have : lk (es.map (·.1)) ((ns.take i).map fun _ => D.bl true) (.inr a) = none := by
        rw [hek]
        refine lk_none fun hm => hnew ?_
        rw [hek]
        exact List.mem_map.mpr ⟨a, hm, rfl⟩
      rw [this]; rfl)) rfl) (fun q => by cases q) (fun _ B5 H5 e5 g5 R5 => ?_)
    refine r_next ?_
    dsimp only
    have hp5 : H5 q = some (.dK es) := (hd_some.mp (R5.w.e q _ (e5 q _ hv4 rfl) rfl)).2
    have R6 := R5.hide fq hp5
    have ex56 : Ex B4 (Hd M0 (q :: F0) H5) := ex_hide (H1 := H5) ((e4'.trans e5).trans R5.w.e) (fun o h n => by
      have := hd_some.mp (R4.w.e q o h n)
      exact this.1.2 List.mem_cons_self)
    refine r_dput1 (d := .bl true) (q := .inr a) R6 List.mem_cons_self nS nF0 rfl hp5 (by omega) ev_bl (ev_var rfl rfl) fun v7 B7 H7 e7 R7 hb7 dv7 => ?_
    rw [DL.putK_new hnew] at R7 ⊢
    refine ⟨B7, ((eb1.trans e4).trans ex56).trans e7, es ++ [(.inr a, v7)], _, _, rfl, R7, upd_same, ?_, ?_⟩
    · rw [map_take_snoc _ ha, List.map_append, hek]; rfl
    · rw [map_take_snoc _ ha, List.map_append]
      exact DtL.append (((hel.mono e4.le).mono ex56.le).mono e7.le) (DtL.cons dv7 DtL.nil)
  · rintro σ' B' H' e ⟨es, v2, v3, rfl, Ri, hp, hek, hel⟩
    exact r_ret Ri ev_non k
end
end Pg

namespace Pg
open PySem PySem.Spec PyProof.Rows L2 DL RX
section
variable {P : Program} {w : World} {K : PySem.W.Frag} {mg : Str → Option Value} {base : Heap} {f C : Addr} {fd : FuncData} {M : Md} {σ : L2.St} {B : Hp} {te : TE} {V : Vl} {d : D}
/-! ### is_lane -/
structure Lane where
  s : D
  ns : List Str
  t : D
def laneOk (ns : List Str) (t : D) : Prop := ∃ a b, sq t = some [.str a, .str b] ∧ a ∈ ns ∧ b ∈ ns ∧ a ≠ b
def selfH (C : Addr) (ns : List Str) (s : D) : Prop := ∃ fs l, s = .ins C fs l ∧ (fs.zip l).lookup ("own_houses" : Str) = some (.lst (ns.map .str))
abbrev Sp_is_lane (C : Addr) := SpQ (α := Lane) (fun p => [p.s, p.t]) (fun p => selfH C p.ns p.s ∧ laneOk p.ns p.t) fun _ => .bl true
theorem ev_own (T : VlF K C) {ns : List Str} (hs : selfH C ns d) (h : Ev M te σ B d) : Ev M (tFld K te "own_houses") σ B (.lst (ns.map .str)) := by
  obtain ⟨fs, l, rfl, e⟩ := hs
  exact ev_fld T.v.ci.cl T.nH h e
theorem ok_is_lane {a1 : Addr} (F : Fun K "is_lane" "Village.is_lane" s_Village_is_lane f fd) (N : Bn mg) (T : VlF K C) (g1 : mg "is_row" = some (.ref a1)) (O1 : OkF P w K mg base 2 a1 ["thing", "many"] (Sp_is_row C)) : FnOk P w K mg base CX0 3 f fd ["self", "thing"] (Sp_is_lane C) := by
  refine F.ok sc_Village_is_lane (SpQ.len fun _ => rfl) (fun cdv A outer s H vs Q E hr h => ?_)
  obtain ⟨F0, ⟨sf, ns, t⟩, tr, hd, ⟨hsf, a, b, hs, ha, hb, hab⟩, k⟩ := h
  obtain ⟨x, y, rfl, hx, hy⟩ := two_inv hd
  have hs : sq t = some [.str a, .str b] := hs
  have h16 := small16
  refine ⟨_, pss_cons (ps_if (pw_or (pt_not (pt_val (pe_c O1 hr g1 (pa_cons (pv 1) (pa_cons pe_int pa_nil))))) (pw_or1 (pt_not (pt_val (pe_callB (cr_all rfl) (by rfl) N.all (by decide +kernel) (pa_cons (pe_lc (te := tAndV (tCB (rIsi K) (tCons (tVar 2) (tCons (tC (.ty "str")) tNil))) (tOp (rIn K false) (tVar 2) (tFld K (tVar 0) "own_houses"))) (own := [("house", 2)]) (g := gName 2) (by rfl) sc_Village_is_lane.nd (pi_seq (pv 1)) (blkOk_by (own := [("house", 2)]) (N := ["self", "thing", "house"]) (sc := defScope s_Village_is_lane) (by decide +kernel)) (fun _ _ _ _ _ => pg_name (i := 2) sc_Village_is_lane.nd rfl (Or.inl rfl)) (fun _ _ _ _ _ => pts_nil) (fun _ _ _ _ _ => (by exact (pe_and (pe_callB call_isi (by rfl) N.isinstance (by decide +kernel) (pa_cons (pv 2) (pa_cons (pe_bltn (v := .ty "str") (by rfl) N.str (by decide +kernel) rfl) pa_nil))) (pe_one (pe_cmpR op_in_seq (pv 2) (pe_fld (pv 0) rfl) (by rfl))))))) pa_nil)))))).pt pss_never pss_nil)
    (pss_one (ps_ret (pe_cmpR op_ne (pe_ix ix_seq (pv 1) pe_int (fun _ _ => rfl)) (pe_ix ix_seq (pv 1) pe_int (fun _ _ => rfl)) (nomark _)))), ?_⟩
  refine r_if (b := false) (Rn.begin (wd0 tr)) (et_is (et_or (a := false) (b := false) (et_is (et_not (et_val (ev_call2 (ev_var rfl hy) ev_int ⟨okV_sq hs, 2, rfl⟩ rfl))) (by
    show (!rowD t 2) = false
    cases t <;> first | (cases hs; done) | (cases hs; rfl))) fun _ => et_is (et_not (et_val (ev_cb (ea_cons (EvF.ev (ef_is (ef_lcm (fun _ => .bl true) (ei_seq hs (ev_var rfl hy)) (by show (2 : Nat) < _; omega) ?_) rfl)) ea_nil) (rc_all (bs := [true, true])))) ) rfl) rfl) (fun q => by cases q) (fun _ B1 H1 e1 g1 R1 => ?_)
  · intro u hu
    have hu' : ∃ c, u = .str c ∧ c ∈ ns := by
      rcases List.mem_cons.mp hu with rfl | hu
      · exact ⟨a, rfl, ha⟩
      · rw [List.mem_singleton] at hu
        exact ⟨b, hu, hb⟩
    obtain ⟨c, rfl, hc⟩ := hu'
    refine turn_name (fun _ => rfl) fun B' z e dz => ⟨et_yes, fun _ => ?_⟩
    exact ev_is (ev_andV (a := true) (b := true) (ev_str' T.v (show okV C (.str c) from trivial) (ev_var rfl dz)) fun _ => ev_is (ev_op (ev_var rfl dz) (ev_own T hsf (ev_var rfl (hx.mono e.le))) (rv_inS rfl)) (by rw [decide_eq_true hc])) rfl
  · refine r_next ?_
    dsimp only
    refine r_ret R1 (ev_is (ev_op (ev_op (ev_var rfl (hy.mono e1.le)) ev_int (rv_ix hs rfl)) (ev_op (ev_var rfl (hy.mono e1.le)) ev_int (rv_ix hs rfl)) rv_neS) (by rw [decide_eq_false hab]; rfl)) k
end
end Pg

/-! DL10: two new things at once; own lists that shrink and grow. -/
namespace DL
open PySem PySem.Spec PyProof.Rows L2
section
variable {M : Md} {F0 F : List Addr} {H0 H H' B B' : Hp} {p : Addr} {d d1 d2 d3 : D} {σ : L2.St} {te ta tb tc : TE} {De : Ends} {tz : TS} {K : PySem.W.Frag}
theorem r_twoGF {i j : Nat} {ks : List L2.Key} {ds es : List D} (R : Rn M F0 H0 F B H) (h1 : EvG M ta σ B ks ds) (h2 : ∀ B', Ex B B' → EvF M tb σ B' es)
    (k : ∀ kp lp kes vs B' H', Fr H0 kp → Fr H0 lp → lp ≠ kp → Ex B B' → Rn M F0 H0 (lp :: kp :: F) B' H' → kp ∉ F → kp ∉ M.S → kp ∉ F0 → lp ∉ F → lp ∉ M.S → lp ∉ F0 → H' kp = some (.dK kes) → kes.map (·.1) = ks → DtL B' ds (kes.map (·.2)) → H' lp = some (.lst vs) → DtL B' es vs →
      tz De ((σ.set i (some (.ref kp))).set j (some (.ref lp))) H') :
    tSeq (tAsg (tTup (tCons ta (tCons tb tNil))) (gTup K 2 (gCons (gName i) (gCons (gName j) gNil)))) tz De σ H :=
  h1 F H _ R.w fun kp kes H1 f g e hk hd => by
    obtain ⟨Rk, xk, n1, n2⟩ := R.own g f e rfl
    refine h2 _ xk (kp :: F) H1 _ Rk.w fun lp vs H2 f2 g2 e2 hd2 => ?_
    obtain ⟨Rl, xl, m1, m2⟩ := Rk.own g2 f2 e2 rfl
    have ne : lp ≠ kp := fun z => m1 (by rw [z]; exact List.mem_cons_self)
    refine ⟨(show 2 ≤ sizeLine by decide), fun tp htp => ⟨tp, _, rfl, SqT.of upd_same, rfl, _, _, rfl, _, _, rfl, rfl, ?_⟩⟩
    have g3 := Rl.w.new htp (.tup [.ref kp, .ref lp])
    have x3 := Rl.ext g3
    have ex : Ex (Hd M (kp :: F) H1) (Hd M (lp :: kp :: F) (upd H2 tp (.tup [.ref kp, .ref lp]))) := xl.trans x3
    refine k kp lp kes vs _ _ (R.fr f) (Rk.fr f2) ne (xk.trans ex) (Rl.step g3) n1 n2 (fun z => n1 (R.s _ z)) (fun z => m1 (List.mem_cons_of_mem _ z)) m2 (fun z => m1 (List.mem_cons_of_mem _ (R.s _ z))) ?_ hk (hd.mono ex.le) ?_ (hd2.mono x3.le)
    · rw [g3.x kp (List.mem_cons_of_mem _ List.mem_cons_self), g2.x kp List.mem_cons_self]; exact e
    · rw [g3.x lp List.mem_cons_self]; exact e2
/-- a own list's last item is taken: i = xs.pop() -/
theorem r_setPop {i j : Nat} {vs : List V} {y : V} (hi : σ[i]? = some (some (.ref p))) (hv : H p = some (.lst vs)) (hy : vs[vs.length - 1]? = some y) (k : tz De (σ.set j (some y)) (upd H p (.lst vs.dropLast))) :
    tSeq (tAsg (tBM0 K "list" rPop (tVar i)) (gName j)) tz De σ H := ⟨_, hi, .inl ⟨rfl, vs, SqL.of hv⟩, p, vs, y, rfl, rfl, hv, hy, k⟩
/-- own list += new list (last statement) -/
theorem r_extend1 {i : Nat} {vs : List V} {ds : List D} (R : Rn M F0 H0 F B H) (hp : p ∈ F) (hm : p ∉ M.S) (h0 : p ∉ F0) (hi : σ[i]? = some (some (.ref p))) (hv : H p = some (.lst vs)) (h : EvF M te σ B ds) (hz : vs.length + ds.length ≤ sizeLine)
    (k : ∀ ws B' H', Ex B B' → Rn M F0 H0 F B' (upd H' p (.lst (vs ++ ws))) → (∀ b ∈ F, H' b = H b) → DtL B' ds ws → De.nx σ (upd H' p (.lst (vs ++ ws)))) : tDrop (tBM K "list" rExtend (tVar i) (tCons te tNil)) De σ H :=
  ⟨_, hi, .inl ⟨rfl, vs, SqL.of hv⟩, h F H _ R.w fun q ws H1 f g e hd => by
    have R1 := R.step g
    refine ⟨p, q, vs, ws, rfl, rfl, by rw [g.x p hp]; exact hv, e, by rw [hd.length]; exact hz, k ws (Hd M F H1) H1 (R.ext g) (R1.put hp hm h0 rfl) (fun b hb => g.x b hb) (hd.mono (hd_sub fun b hb => List.mem_cons_of_mem _ hb).le)⟩⟩
end
end DL

namespace Pg
open PySem PySem.Spec PyProof.Rows L2 DL RX
section
variable {P : Program} {w : World} {K : PySem.W.Frag} {mg : Str → Option Value} {base : Heap} {f C : Addr} {fd : FuncData} {M : Md} {σ : L2.St} {B : Hp} {te : TE} {V : Vl} {d : D}
/-- every set of houses that holds the first and all neighbours of its own holds all -/
def Conn (V : Vl) : Prop := ∀ S : Str → Prop, (∀ a, V.ns[0]? = some a → S a) → (∀ a ∈ V.ns, ∀ b ∈ V.ns, S a → 0 < cnt V.ls a b → S b) → ∀ a ∈ V.ns, S a
theorem valV_isSome {es : List (L2.Key × L2.V)} {kn : List Str} {a : Str} (h : es.map (·.1) = kn.map .inr) : (valV es (.inr a)).isSome = decide (a ∈ kn) := by
  induction es generalizing kn with
  | nil =>
    have : kn = [] := List.map_eq_nil_iff.mp h.symm
    subst this
    simp [valV]
  | cons p es ih =>
    cases kn with
    | nil => simp at h
    | cons b kn =>
      rw [List.map_cons, List.map_cons] at h
      injection h with h1 h2
      have := ih h2
      by_cases z : b = a
      · subst z
        rw [valV_pos h1]; simp
      · rw [valV_neg (by rw [h1]; exact fun q => z (Sum.inr.inj q)), this]
        have z' : ¬ a = b := fun q => z q.symm
        simp [z']
abbrev Sp_first_lost (C : Addr) := SpQ (α := Vl) (fun V => [vD C V]) (fun V => VOk V ∧ Conn V) fun _ => .non
abbrev N_first_lost : List Str := ["self", "known", "left", "house", "other", "lost"]
theorem ok_first_lost (F : Fun K "first_lost" "Village.first_lost" s_Village_first_lost f fd) (N : Bn mg) (T : VlF K C) : FnOk P w K mg base CX0 1 f fd ["self"] (Sp_first_lost C) := by
  refine F.ok sc_Village_first_lost (SpQ.len fun _ => rfl) (fun cdv A outer s H vs Q E hr h => ?_)
  obtain ⟨F0, V, tr, hd, ⟨pV, conn⟩, k⟩ := h
  obtain ⟨x, rfl, hx⟩ := one_inv hd
  have pV : VOk V := pV
  have hu := hu_of hr
  have h16 := small16
  have hn : V.ns.length ≤ 16 := pV.n
  refine ⟨_, pss_cons (ps_asg (g := gTup K 2 (gCons (gName 1) (gCons (gName 2) gNil))) (pe_tup (pa_cons pe_dnewK (pa_cons (pe_lst (pa_cons (pe_ix ix_seq (pe_fld (pv 0) rfl) pe_int (fun _ _ => rfl)) pa_nil)) pa_nil))) (by exact pg_tup (by rfl) (pgs_cons (pg_name (i := 1) sc_Village_first_lost.nd rfl (Or.inr rfl)) (pgs_cons (pg_name (i := 2) sc_Village_first_lost.nd rfl (Or.inl rfl)) pgs_nil))))
    (pss_cons (ps_while PassesOwn.never (pt_cmpR (op_neD hr.units) (pv 2) (pe_lst pa_nil) (nomark _))
      (pss_cons (ps_set (i := 3) sc_Village_first_lost.nd rfl (Or.inr rfl) (pe_bm0 PySem.F.plainAttrs_list PySem.F.slot_list_pop PySem.F.type_list_pop mt_pop (pv 2)))
      (pss_one (ps_if (pt_cmp (pc_dnotin hu (pv 3) (pv 1)))
        (pss_cons (ps_dput hu (pv 1) (pv 3) pe_bl rfl)
        (pss_one (ps_expr (pe_bm PySem.F.plainAttrs_list PySem.F.slot_list_extend PySem.F.type_list_extend mt_extend (pv 2) (pa_cons (pe_lc (tt := tTest (tOp rGt (tDGet (tDGet (tFld K (tVar 0) "own_between") (tVar 3)) (tVar 4)) (tC (.int 0)))) (own := [("other", 4)]) (g := gName 4) (by rfl) sc_Village_first_lost.nd (pi_list (pe_fld (pv 0) rfl)) (blkOk_by (own := [("other", 4)]) (N := N_first_lost) (sc := defScope s_Village_first_lost) (by decide +kernel)) (fun _ _ _ _ _ => pg_name (i := 4) sc_Village_first_lost.nd rfl (Or.inl rfl))
          (fun _ _ _ _ _ => by exact pts_one (pt_cmpR op_gt1 (pe_dget hu (pe_dget hu (pe_fld (pv 0) rfl) (pv 3) (fun _ _ => rfl)) (pv 4) (fun _ _ => rfl)) pe_int (nomark _))) (fun _ _ _ _ _ => pv 4)) pa_nil))))) pss_nil))))
    (pss_cons (ps_setLc (i := 5) (own := [("house", 3)]) (g := gName 3) (by rfl) sc_Village_first_lost.nd rfl rfl (sw_true rfl rfl rfl (by decide +kernel)) (pi_list (pe_fld (pv 0) rfl)) (blkOk_by (own := [("house", 3)]) (N := N_first_lost) (sc := defScope s_Village_first_lost) (by decide +kernel)) (fun _ _ _ _ _ => pg_name (i := 3) sc_Village_first_lost.nd rfl (Or.inl rfl))
          (fun _ _ _ _ _ => pts_one (pt_cmp (pc_dnotin hu (pv 3) (pv 1)))) (fun _ _ _ _ _ => pv 3))
    (pss_one (ps_ret (pe_ifExp (pt_cmpR (op_neD hr.units) (pv 5) (pe_lst pa_nil) (nomark _)) (pe_ix ix_seq (pv 5) pe_int (fun _ _ => rfl)) pe_non))))), ?_⟩
  obtain ⟨h0, hh0⟩ : ∃ a, V.ns[0]? = some a := by
    have := List.length_pos_iff.mpr pV.n0
    exact ⟨_, List.getElem?_eq_getElem this⟩
  have h0m : h0 ∈ V.ns := List.mem_of_getElem? hh0
  have nok : ∀ {l : List Str}, (∀ a ∈ l, a ∈ V.ns) → l.all PyData.strOk = true := fun h => by
    rw [List.all_eq_true]
    exact fun a ha => (name_asc (pV.nm a (h a ha))).ok
  refine r_twoGF (Rn.begin (wd0 tr)) eg_dict0 (fun B' e => ef_lst (ea_cons (ev_op (ev_houses T (ev_var rfl (hx.mono e.le))) ev_int (rv_ix (d := .str h0) rfl (by
    unfold atI ixN
    rw [if_pos (Int.le_refl 0), List.length_map, if_pos (by have := List.length_pos_iff.mpr pV.n0; omega)]
    show (V.ns.map D.str)[0]? = _
    rw [List.getElem?_map, hh0]; rfl))) ea_nil) (show (1 : Nat) ≤ sizeLine by decide)) fun kp lp kes vs B1 H1 fk fl hne e1 R1 k1 k2 k3 l1 l2 l3 hk hkk hkd hl hld => ?_
  have evs : vs = [.str h0] := (show DtL B1 ([h0].map D.str) vs from hld).strs
  subst evs
  have ees : kes = [] := List.map_eq_nil_iff.mp hkk
  subst ees
  have hx1 := hx.mono e1.le
  refine r_while1 (De := { nx := _, rt := Q }) R1 (fun m σ B' H' => ∃ (kn lf : List Str) (es : List (L2.Key × L2.V)) (v3 : Option L2.V), σ = [some x, some (.ref kp), some (.ref lp), v3, none, none] ∧ Rn M0 F0 H (lp :: kp :: F0) B' H' ∧ H' kp = some (.dK es) ∧ es.map (·.1) = kn.map .inr ∧ DtL B' (kn.map fun _ => D.bl true) (es.map (·.2)) ∧ H' lp = some (.lst (lf.map L2.V.str)) ∧ kn.Nodup ∧ (∀ a ∈ kn, a ∈ V.ns) ∧ (∀ a ∈ lf, a ∈ V.ns) ∧
    (∀ a ∈ kn, ∀ b ∈ V.ns, 0 < cnt V.ls a b → b ∈ kn ∨ b ∈ lf) ∧ (h0 ∈ kn ∨ h0 ∈ lf) ∧ lf.length ≤ 1 + 16 * kn.length ∧ m = (V.ns.length - kn.length) * 17 + lf.length) (V.ns.length * 17 + 1)
    ⟨[], [h0], [], none, rfl, R1, hk, rfl, DtL.nil, hl, List.nodup_nil, (fun a h => by cases h), (fun a h => by rw [List.mem_singleton] at h; rw [h]; exact h0m), (fun a h => by cases h), .inr (by simp), by simp, by simp⟩ ?_
  rintro m σ' Bb B2 H2 eb eb2 ⟨kn, lf, es, v3, rfl, R2, hk2, hkk2, hkd2, hl2, hnd, hkn, hlf, hcl, hst, hll, hm⟩
  obtain ⟨R2', e2'⟩ := R2.tell l3
  have hlv : Hd M0 (kp :: F0) H2 lp = some (.lst (lf.map L2.V.str)) := hd_some.mpr ⟨⟨l2, fun z => (List.mem_cons.mp z).elim hne l1⟩, hl2⟩
  have dl2 : Dt (Hd M0 (kp :: F0) H2) (.lst (lf.map .str)) (.ref lp) := lst_mk hlv (DtL.ofStrs lf)
  refine r_evT (b := !decide (lf = [])) R2' (et_cmp (ev_op (ev_var rfl dl2) (EvF.ev (ef_lst ea_nil (Nat.zero_le _))) (rv_neLS (l := lf) (m := []) (nok hlf) rfl))) fun B3 H3 e3 g3 R3 => ?_
  have hl3 : H3 lp = some (.lst (lf.map L2.V.str)) := (hd_some.mp (R3.w.e lp _ (e3 lp _ hlv rfl) rfl)).2
  have hk3 : H3 kp = some (.dK es) := by rw [g3.x kp List.mem_cons_self]; exact hk2
  have R4 := R3.hide fl hl3
  have ex4 : Ex B2 (Hd M0 (lp :: kp :: F0) H3) := ex_hide (H1 := H3) ((e2'.trans e3).trans R3.w.e) (fun o h n => (hd_some.mp (R2.w.e lp o h n)).1.2 List.mem_cons_self)
  have ex14 : Ex B1 (Hd M0 (lp :: kp :: F0) H3) := (eb.trans eb2).trans ex4
  have hkl : kn.length ≤ V.ns.length := nodup_sub_len hnd hkn
  by_cases hlf0 : lf = []
  · -- the loop ends
    subst hlf0
    have all_in : ∀ a ∈ V.ns, a ∈ kn := conn (fun a => a ∈ kn) (fun a ha => by
      rw [hh0] at ha; cases ha
      exact hst.resolve_right (by simp)) fun a ha b hb hs hc => (hcl a hs b hb hc).resolve_right (by simp)
    refine iteF ?_
    obtain ⟨R5, e5⟩ := R4.tell l3
    obtain ⟨R6, e6⟩ := R5.tell k3
    have hkv : Hd M0 F0 H3 kp = some (.dK es) := hd_some.mpr ⟨⟨k2, k1⟩, hk3⟩
    have ex6 := e5.trans e6
    have dk6 : Dt (Hd M0 F0 H3) (.dic (es.map (·.1)) (kn.map fun _ => D.bl true)) (.ref kp) := dic_mk (.inl hkv) ((hkd2.mono ex4.le).mono ex6.le)
    have hx6 := hx1.mono (ex14.trans ex6).le
    refine r_set (d := .lst []) R6 (EvF.ev (ef_is (ef_lcA (ys := V.ns) (en := D.str) (fun _ => false) D.str (ei_list (ev_houses T (ev_var rfl hx6))) (by omega) fun a ha => ?_) (by rw [List.filter_eq_nil_iff.mpr (by simp)]; rfl))) fun v5 B7 H7 e7 g7 R7 d7 => ?_
    · refine turn_name (fun _ => rfl) fun B' z e dz => ⟨et_is (et_val (ev_dnotin (q := .inr a) (ev_var rfl dz) (ev_var rfl (dk6.mono e.le)))) ?_, fun q => by cases q⟩
      rw [hkk2, lk_map (all_in a ha)]; rfl
    · exact r_ret R7 (ev_if (b := false) (et_is (et_cmp (ev_op (ev_var rfl d7) (EvF.ev (ef_lst ea_nil (Nat.zero_le _))) (rv_neLS (l := []) (m := []) rfl rfl))) rfl) (fun q => by cases q) fun _ => ev_non) k
  · rw [show (!decide (lf = [])) = true by simp [hlf0]]
    refine iteT ⟨fun σ3 H3 => ∃ m', m' < m ∧ Lp _ Bb m' σ3 H3, fun _ _ h => h, ?_⟩
    obtain ⟨lf', a, rfl⟩ : ∃ l' a, lf = l' ++ [a] := ⟨lf.dropLast, lf.getLast hlf0, (List.dropLast_concat_getLast hlf0).symm⟩
    have ham : a ∈ V.ns := hlf a (by simp)
    have hdrop : (((lf' ++ [a]).map L2.V.str)).dropLast = lf'.map L2.V.str := by rw [List.map_append]; simp
    refine r_setPop (y := .str a) rfl hl3 (by rw [List.map_append]; simp) ?_
    rw [hdrop]
    have R5 : Rn M0 F0 H (lp :: kp :: F0) (Hd M0 (lp :: kp :: F0) H3) (upd H3 lp (.lst (lf'.map L2.V.str))) := R4.put List.mem_cons_self l2 l3 rfl
    have hk5 : upd H3 lp (.lst (lf'.map L2.V.str)) kp = some (.dK es) := by rw [upd_ne (fun z => hne z.symm)]; exact hk3
    refine ⟨_, rfl, _, rfl, kp, valV es (.inr a), rfl, DGet.k (k := .inr a) hk5, _, rfl, ?_⟩
    rw [valV_isSome hkk2]
    by_cases hin : a ∈ kn
    · rw [decide_eq_true hin]
      refine iteF ⟨(V.ns.length - kn.length) * 17 + lf'.length, by rw [hm, List.length_append]; simp, _, eb2.trans ex4, kn, lf', es, some (.str a), rfl, R5, hk5, hkk2, hkd2.mono ex4.le, upd_same, hnd, hkn, fun b hb => hlf b (by simp [hb]), fun b hb c hc hp => ?_, ?_, ?_, rfl⟩
      · rcases hcl b hb c hc hp with z | z
        · exact .inl z
        · rcases List.mem_append.mp z with z | z
          · exact .inr z
          · rw [List.mem_singleton] at z; subst z; exact .inl hin
      · rcases hst with z | z
        · exact .inl z
        · rcases List.mem_append.mp z with z | z
          · exact .inr z
          · rw [List.mem_singleton] at z; subst z; exact .inl hin
      · rw [List.length_append] at hll; simp at hll; omega
    · rw [decide_eq_false hin]
      refine iteT ?_
      have hx5 := hx1.mono ex14.le
      have hesl : es.length = kn.length := by
        have := congrArg List.length hkk2
        rwa [List.length_map, List.length_map] at this
      refine r_dput (p := kp) (d := .bl true) (q := .inr a) R5 (List.mem_cons_of_mem _ List.mem_cons_self) k2 k3 rfl hk5 (by omega) ev_bl (ev_var rfl rfl) fun v6 B6 H6 e6 R6 hb6 dv6 => ?_
      have hnew : (.inr a : L2.Key) ∉ es.map (·.1) := by
        rw [hkk2]
        intro hm'
        obtain ⟨b, hb, e⟩ := List.mem_map.mp hm'
        cases e; exact hin hb
      rw [DL.putK_new hnew] at R6 ⊢
      have hl6 : upd H6 kp (.dK (es ++ [(.inr a, v6)])) lp = some (.lst (lf'.map L2.V.str)) := by
        rw [upd_ne hne, hb6 lp List.mem_cons_self hne, upd_same]
      have hx6 := hx5.mono e6.le
      have hsz : (400 : Nat) ≤ sizeLine := by decide
      have hfl := List.length_filter_le (fun b => decide (0 < cnt V.ls a b)) V.ns
      rw [List.length_append] at hll
      simp at hll
      refine r_extend1 (ds := (V.ns.filter fun b => decide (0 < cnt V.ls a b)).map .str) R6 List.mem_cons_self l2 l3 rfl hl6 (ef_lcA (ys := V.ns) (en := D.str) (fun b => decide (0 < cnt V.ls a b)) D.str (ei_list (ev_houses T (ev_var rfl hx6))) (by omega) fun b hb => ?_) (by rw [List.length_map, List.length_map]; omega) fun ws B7 H7 e7 R7 hb7 dws => ?_
      · refine turn_name (fun _ => rfl) fun B' z e dz => ⟨et_is (et_cmp (ev_op (ev_dget (q := .inr b) (ev_row (a := a) T (ev_var rfl (hx6.mono e.le)) (ev_var rfl rfl) ham) (ev_var rfl dz) (lk_map hb)) ev_int (rv_I0 rfl))) rfl, fun _ => ev_var rfl dz⟩
      · have ew := dws.strs
        subst ew
        rw [← List.map_append] at R7 ⊢
        have hkn' : ∀ b ∈ kn ++ [a], b ∈ V.ns := fun b hb => by
          rcases List.mem_append.mp hb with z | z
          · exact hkn b z
          · rw [List.mem_singleton] at z; rw [z]; exact ham
        have hnd' : (kn ++ [a]).Nodup := by
          rw [List.nodup_append]
          exact ⟨hnd, by simp, fun b hb c hc => by rw [List.mem_singleton] at hc; rw [hc]; exact fun z => hin (by rw [← z]; exact hb)⟩
        have hkl' := nodup_sub_len hnd' hkn'
        rw [List.length_append, List.length_singleton] at hkl'
        refine ⟨(V.ns.length - (kn ++ [a]).length) * 17 + (lf' ++ V.ns.filter fun b => decide (0 < cnt V.ls a b)).length, ?_, B7, ((eb2.trans ex4).trans e6).trans e7, kn ++ [a], lf' ++ V.ns.filter fun b => decide (0 < cnt V.ls a b), es ++ [(.inr a, v6)], some (.str a), rfl, R7, ?_, ?_, ?_, upd_same, hnd', hkn', ?_, ?_, ?_, ?_, rfl⟩
        · rw [hm]
          simp only [List.length_append, List.length_singleton]
          omega
        · rw [upd_ne (fun z => hne z.symm), hb7 kp (List.mem_cons_of_mem _ List.mem_cons_self), upd_same]
        · rw [List.map_append, List.map_append, hkk2]; rfl
        · rw [List.map_append, List.map_append]
          exact DtL.append (((hkd2.mono ex4.le).mono e6.le).mono e7.le) (DtL.cons (dv6.mono e7.le) DtL.nil)
        · intro b hb
          rcases List.mem_append.mp hb with z | z
          · exact hlf b (by simp [z])
          · exact (List.mem_filter.mp z).1
        · intro b hb c hc hp
          rcases List.mem_append.mp hb with z | z
          · rcases hcl b z c hc hp with q | q
            · exact .inl (List.mem_append.mpr (.inl q))
            · rcases List.mem_append.mp q with q | q
              · exact .inr (List.mem_append.mpr (.inl q))
              · exact .inl (List.mem_append.mpr (.inr q))
          · rw [List.mem_singleton] at z
            subst z
            exact .inr (List.mem_append.mpr (.inr (List.mem_filter.mpr ⟨hc, decide_eq_true hp⟩)))
        · rcases hst with z | z
          · exact .inl (List.mem_append.mpr (.inl z))
          · rcases List.mem_append.mp z with z | z
            · exact .inr (List.mem_append.mpr (.inl z))
            · exact .inl (List.mem_append.mpr (.inr z))
        · simp only [List.length_append, List.length_singleton]
          omega
end
end Pg

/-! DL11: fields of an own instance, places seen again, a dict of new dicts. -/
namespace DL
open PySem PySem.Spec PyProof.Rows L2
section
variable {M : Md} {F0 F G : List Addr} {H0 H H' B B' : Hp} {p : Addr} {d d1 d2 d3 : D} {σ : L2.St} {te ta tb tc tk tv : TE} {De : Ends} {tz : TS} {K : PySem.W.Frag}
/-- some hidden places are seen -/
theorem Rn.see (R : Rn M F0 H0 F B H) (hs : ∀ b ∈ G, b ∈ F) (h0 : ∀ b ∈ F0, b ∈ G) : Rn M F0 H0 G (Hd M G H) H ∧ Ex B (Hd M G H) := by
  have e : Ex B (Hd M G H) := R.w.e.trans (hd_sub hs)
  exact ⟨⟨⟨Ex.refl _, R.w.i, fun b hb => R.w.f b (hs b hb)⟩, R.e0.trans e, h0, R.x⟩, e⟩
/-- self.f = e, self ours -/
theorem r_fset {i : Nat} {f : Str} {C dx : Addr} {fs : List (Str × V)} (R : Rn M F0 H0 F B H) (hp : p ∈ F) (hm : p ∉ M.S) (h0 : p ∉ F0) (hi : σ[i]? = some (some (.ref p))) (hv : H p = some (.ins C dx fs)) (c : Cls K C) (n : NoAttr K C f) (hz : fs.length < 1000) (h : Ev M tv σ B d)
    (k : ∀ v B' H', Ex B B' → Rn M F0 H0 F B' (upd H' p (.ins C dx (putF f v fs))) → (∀ b ∈ F, b ≠ p → H' b = H b) → Dt B' d v → tz De σ (upd H' p (.ins C dx (putF f v fs)))) : tSeq (sFld K (tVar i) tv f) tz De σ H :=
  r_ev (Q := fun y H1 => tVar i σ H1 fun x H2 => ∃ a C dx fs, x = .ref a ∧ H2 a = some (.ins C dx fs) ∧ Cls K C ∧ NoAttr K C f ∧ fs.length < 1000 ∧ tz De σ (upd H2 a (.ins C dx (putF f y fs)))) R h fun v B' H' e g R1 dv =>
    ⟨_, hi, p, C, dx, fs, rfl, by rw [g.x p hp]; exact hv, c, n, hz, k v B' H' e (R1.put hp hm h0 rfl) (fun b hb _ => g.x b hb) dv⟩
/-- {a: {..} for a in ..}: the inner dicts are new, each its own -/
theorem eg_dcN {wi : TI} {g : TG} {t : TT} {vs : List Nat} {ys : List Str} {es0 : List (L2.Key × V)} (hi : EvI M wi σ B (ys.map D.str)) (hz : ys.length < sizeLine) (hn : ys.Nodup)
    (hg : ∀ a ∈ ys, ∀ F B' H x (Q : L2.St → Hp → Prop), Ex B B' → Wd M F B' H → Dt B' (.str a) x → (∀ σ2, wipe σ2 vs = wipe σ vs → EvT M t σ2 B' true → Ev M tk σ2 B' (.str a) → (∀ F H Q, Wd M F B' H → (∀ q H', Fr H q → Go M F H H' → H' q = some (.dK es0) → Q (.ref q) H') → tv σ2 H Q) → Q σ2 H) → g x (wipe σ vs) H Q)
    {Q : VK} (W : Wd M F B H) (k : ∀ p es (qs : List Addr) H', Fr H p → qs.Nodup → p ∉ qs → (∀ q ∈ qs, Fr H q) → Go M F H H' → H' p = some (.dK es) → es.map (·.1) = ys.map .inr → es.map (·.2) = qs.map V.ref → (∀ q ∈ qs, H' q = some (.dK es0)) → Q (.ref p) H') : tDc wi g t tk tv vs σ H Q :=
  hi F H _ W fun J H1 g1 wk => by
    obtain ⟨G, Y, w, hG, hY⟩ := wk.ex
    intro Dl hD
    have W1 := W.go g1
    have nD := W1.nS (Fr.of hD)
    refine dc_it w (fun i H' => ∃ (acc : List (L2.Key × V)) (qs : List Addr), Go M F H1 H' ∧ Wd M (Dl :: (qs ++ F)) (Hd M F H1) H' ∧ H' Dl = some (.dK acc) ∧ acc.map (·.1) = (ys.take i).map .inr ∧ acc.map (·.2) = qs.map V.ref ∧ qs.Nodup ∧ Dl ∉ qs ∧ (∀ q ∈ qs, Fr H1 q ∧ H' q = some (.dK es0))) ?_ ?_ ?_ ?_
    · have g2 := W1.new hD (.dK [])
      exact ⟨[], [], g2, (W1.own g2 (Fr.of hD) upd_same rfl).1, upd_same, rfl, rfl, List.nodup_nil, (by simp), fun q h => by cases h⟩
    · rintro i H' _ ⟨acc, qs, _, p2, _⟩
      exact hG _ H' p2
    · rintro i x H2 H3 hlt ⟨acc, qs, p1, p2, p3, p4, p5, p6, p7, p8⟩ y
      obtain ⟨g3, d0, hd0, dx⟩ := hY _ i H2 x H3 hlt p2 y
      rw [List.getElem?_map] at hd0
      obtain ⟨a, ha, rfl⟩ := Option.map_eq_some_iff.mp hd0
      have ham : a ∈ ys := List.mem_of_getElem? ha
      have W3 := p2.go g3
      have Wn : Wd M (Dl :: (qs ++ F)) (Hd M (Dl :: (qs ++ F)) H3) H3 := W3.now
      refine hg a ham (Dl :: (qs ++ F)) (Hd M (Dl :: (qs ++ F)) H3) H3 x _ (W1.e.trans W3.e) Wn dx fun σ2 hw ht hk' hv => ⟨hw, ?_⟩
      refine ht _ H3 _ Wn fun H4 g4 => iteT ?_
      refine hk' _ H4 _ (Wn.go g4) fun y H5 g5 e5 => ?_
      refine hv _ H5 _ ((Wn.go g4).go g5) fun q H6 hq g6 e6 => ?_
      have gg := ((g3.trans g4).trans g5).trans g6
      have W5 := ((W3.go g4).go g5)
      have nq := W5.nS hq
      have hqD : q ≠ Dl := fun z => nq.2 (by rw [z]; exact List.mem_cons_self)
      have hqqs : q ∉ qs := fun z => nq.2 (List.mem_cons_of_mem _ (List.mem_append.mpr (.inl z)))
      have hq1 : Fr H1 q := by
        have e15 : Ex (Hd M F H1) (Hd M (Dl :: (qs ++ F)) H5) := W5.e
        intro o ho n
        by_cases z : q ∈ F
        · exact nq.2 (List.mem_cons_of_mem _ (List.mem_append.mpr (.inr z)))
        · exact hq o (hd_some.mp (e15 q o (hd_some.mpr ⟨⟨nq.1, z⟩, ho⟩) n)).2 n
      have accl : acc.length = i := by
        have := congrArg List.length p4
        rw [List.length_map, List.length_map, List.length_take] at this
        rw [List.length_map] at hlt
        omega
      refine ⟨acc, .inr a, (show y = .str a from e5), by rw [gg.x Dl List.mem_cons_self]; exact p3, by rw [accl]; rw [List.length_map] at hlt; omega, ?_⟩
      have hnew : (.inr a : L2.Key) ∉ acc.map (·.1) := by
        rw [p4]
        intro hm
        obtain ⟨b, hb, e⟩ := List.mem_map.mp hm
        cases e
        have nd := hn.sublist (List.take_sublist (i + 1) ys)
        rw [List.take_succ, ha, List.nodup_append] at nd
        exact nd.2.2 _ hb _ (by simp) rfl
      rw [putK_new hnew]
      -- what is hidden grows by q
      have Wq : Wd M (q :: Dl :: (qs ++ F)) (Hd M F H1) H6 := (W5.own g6 hq e6 rfl).2
      have W6 : Wd M (Dl :: ((qs ++ [q]) ++ F)) (Hd M F H1) H6 := by
        have mm : ∀ b, b ∈ q :: Dl :: (qs ++ F) ↔ b ∈ Dl :: ((qs ++ [q]) ++ F) := fun b => by
          simp only [List.mem_cons, List.mem_append, List.not_mem_nil, or_false]
          constructor
          · rintro (h | h | h | h)
            · exact .inr (.inl (.inr h))
            · exact .inl h
            · exact .inr (.inl (.inl h))
            · exact .inr (.inr h)
          · rintro (h | (h | h) | h)
            · exact .inr (.inl h)
            · exact .inr (.inr (.inl h))
            · exact .inl h
            · exact .inr (.inr (.inr h))
        exact ⟨Wq.e.trans (hd_sub fun b hb => (mm b).mpr hb), Wq.i, fun b hb => Wq.f b ((mm b).mpr hb)⟩
      have W7 := W6.put (p := Dl) (o := .dK (acc ++ [(.inr a, .ref q)])) List.mem_cons_self nD.1 rfl
      refine ⟨acc ++ [(.inr a, .ref q)], qs ++ [q], ?_, W7, upd_same, ?_, ?_, ?_, ?_, ?_⟩
      · refine ⟨W7.e.trans (hd_sub fun b hb => List.mem_cons_of_mem _ (List.mem_append.mpr (.inr hb))), fun b hb => ?_, W7.i⟩
        rw [upd_ne (fun z => nD.2 (by rw [← z]; exact hb)), gg.x b (List.mem_cons_of_mem _ (List.mem_append.mpr (.inr hb))), p1.x b hb]
      · rw [List.map_append, p4, map_take_snoc _ ha]; rfl
      · rw [List.map_append, p5, List.map_append]; rfl
      · rw [List.nodup_append]
        exact ⟨p6, by simp, fun b hb c hc => by rw [List.mem_singleton] at hc; rw [hc]; exact fun z => hqqs (by rw [← z]; exact hb)⟩
      · intro z
        rcases List.mem_append.mp z with z | z
        · exact p7 z
        · rw [List.mem_singleton] at z; exact hqD z.symm
      · intro b hb
        rcases List.mem_append.mp hb with z | z
        · refine ⟨(p8 b z).1, ?_⟩
          rw [upd_ne (fun y => p7 (by rw [← y]; exact z)), gg.x b (List.mem_cons_of_mem _ (List.mem_append.mpr (.inl z)))]
          exact (p8 b z).2
        · rw [List.mem_singleton] at z
          subst z
          exact ⟨hq1, by rw [upd_ne hqD]; exact e6⟩
    · rintro H' ⟨acc, qs, p1, p2, p3, p4, p5, p6, p7, p8⟩
      rw [List.length_map, List.take_length] at p4
      exact k Dl acc qs H' (W.back g1 (Fr.of hD)) p6 p7 (fun q hq => W.back g1 (p8 q hq).1) (g1.trans p1) p3 p4 p5 fun q hq => (p8 q hq).2
end
end DL

namespace Pg
open PySem PySem.Spec PyProof.Rows L2 DL RX
structure OkM (P : Program) (w : World) (K : PySem.W.Frag) (mg : Str → Option Value) (base : Heap) (k : Nat) (C : Addr) (m : Str) (f : Addr) (ps : List Str) (sp : Sp) : Prop where
  ex : ∃ fd, FnOk P w K mg base CX0 k f fd ps sp ∧ Binds K fd ps []
  mt : Meth K C m f
theorem pe_cm {X : Cx} {k : Nat} {C f : Addr} {ps : List Str} {sp : Sp} {m : Str} {apos pos : Pos} {o e : Expr} {es : List Expr} {ta : TE} {t : TA} {pl : Sem Bool} (O : OkM X.prog X.w X.K X.mg X.base k C m f ps sp) (hr : Room k X.A) (c : Cls X.K C) (he : PE X o ta) (ha : PA X (e :: es) t)
    (hst : starEach (e :: es) X.env = (false, eval e X.env) :: starEach es X.env := by rfl) (hpl : (backTo pos (starEach es X.env)).any (·.1) = false := by rfl)
    (ht : eval (.Call (.Attribute o m apos) (e :: es) [] pos) X.env = (do
      let ov ← eval o X.env
      standAt apos.atName
      let (f, first) ← holding [ov] (getMethod ov m pl)
      callWith pos f first (backTo pos (starEach (e :: es) X.env)) (backToKw pos (keywordEach [] X.env))) := by rfl) : PE X (.Call (.Attribute o m apos) (e :: es) [] pos) (tMeth C m sp [] E0 ta t) := by
  obtain ⟨⟨fd, G, b⟩, mt⟩ := O
  exact pe_meth he c mt G hr b .nil pass0 ha hst hpl ht
theorem pe_cm0 {X : Cx} {k : Nat} {C f : Addr} {ps : List Str} {sp : Sp} {m : Str} {apos pos : Pos} {o : Expr} {ta : TE} {pl : Sem Bool} (O : OkM X.prog X.w X.K X.mg X.base k C m f ps sp) (hr : Room k X.A) (c : Cls X.K C) (he : PE X o ta)
    (ht : eval (.Call (.Attribute o m apos) [] [] pos) X.env = (do
      let ov ← eval o X.env
      standAt apos.atName
      let (f, first) ← holding [ov] (getMethod ov m pl)
      callWith pos f first (backTo pos (starEach [] X.env)) (backToKw pos (keywordEach [] X.env))) := by rfl) : PE X (.Call (.Attribute o m apos) [] [] pos) (tMeth C m sp [] E0 ta tNil) := by
  obtain ⟨⟨fd, G, b⟩, mt⟩ := O
  exact pe_meth0 he c mt G hr b .nil pass0 ht
section
variable {P : Program} {w : World} {K : PySem.W.Frag} {mg : Str → Option Value} {base : Heap} {f C : Addr} {fd : FuncData} {M : Md} {σ : L2.St} {B : Hp} {te : TE} {V : Vl} {d : D}
theorem ins_mk {H : Hp} {a C dx : Addr} {es : List (Str × L2.V)} {fs : List Str} {l : List D} (h : H a = some (.ins C dx es)) (hk : es.map (·.1) = fs) (k : DtL H l (es.map (·.2))) : Dt H (.ins C fs l) (.ref a) :=
  (show ∃ b d' es', L2.V.ref a = .ref b ∧ H b = some (.ins C d' es') ∧ es'.map (·.1) = fs ∧ DtL H l (es'.map (·.2)) from ⟨a, dx, es, rfl, h, hk, k⟩)
theorem lookup_no {f : Str} : ∀ {es : List (Str × L2.V)}, f ∉ es.map (·.1) → es.lookup f = none
  | [], _ => rfl
  | (g, v) :: es, h => by
    have h1 : f ≠ g := fun z => h (by rw [z]; exact List.mem_cons_self)
    rw [List.lookup_cons, beq_false_of_ne h1]
    exact lookup_no fun z => h (List.mem_cons_of_mem _ z)
theorem ev_meth {α : Type} {m : Str} {inp : α → List D} {pre : α → Prop} {g : α → D} {tr : TA} {fs : List Str} {l : List D} {E : XK} (a : α) (hs : Ev M te σ B (.ins C fs l)) (hm : m ∉ fs) (hr : ∀ ds, inp a = .ins C fs l :: ds → EvA M tr σ B ds) {ds : List D} (hi : inp a = .ins C fs l :: ds) (p : pre a) :
    Ev M (tMeth C m (SpQ inp pre g) [] E te tr) σ B (g a) := fun F H Q W k =>
  hs F H _ W fun x H1 g1 e1 => by
    obtain ⟨a', dx, es, rfl, ha, hk, hl⟩ := ins_inv e1
    refine ⟨a', dx, es, rfl, (hd_some.mp ha).2, ?_, ?_⟩
    · exact lookup_no (fun h => hm (by rw [← hk]; exact h))
    · refine hr ds hi F H1 _ (W.go g1) fun vs H2 g2 e2 => ?_
      have W2 := (W.go g1).go g2
      refine ⟨M.S ++ F, a, app_tr W2, ?_, p, fun v H' g' e' => ?_⟩
      · rw [hd_app, hi, List.append_nil]
        exact DtL.cons (e1.mono g2.le) e2
      · rw [hd_app] at e'
        exact k v H' ((g1.trans g2).trans (go_app W2 g')) e'
def mm (p : Str × Str) : Str × Str := (minS p.1 p.2, maxS p.1 p.2)
def laneP (t : D) : Str × Str := match sq t with
  | some [.str a, .str b] => (a, b)
  | _ => ("", "")
def mkV (names : List Str) (lanes : List D) : Vl := ⟨names.mergeSort leS, (lanes.map fun t => mm (laneP t)).mergeSort leSS⟩
structure Ini where
  hD : D
  lD : D
  names : List Str
  lanes : List D
structure IniOk (i : Ini) : Prop where
  h : sq i.hD = some (i.names.map .str)
  l : sq i.lD = some i.lanes
  n : namesOk i.names
  v : VOk (mkV i.names i.lanes)
  c : Conn (mkV i.names i.lanes)
  ls : i.lanes.length ≤ 64
  lo : ∀ t ∈ i.lanes, laneOk i.names t
def Sp_init (C : Addr) : Sp := fun vs H Q _ => ∃ (H0 : Hp) (F0 : List Addr) (p dx : Addr) (i : Ini) (x y : L2.V), vs = [.ref p, x, y] ∧ H = upd (upd H0 dx (.own p)) p (.ins C dx []) ∧ H0 p = none ∧ H0 dx = none ∧ dx ≠ p ∧ (∀ b ∈ F0, ∃ o, H0 b = some o ∧ notT o = true) ∧
  Dt (Hd M0 F0 H0) i.hD x ∧ Dt (Hd M0 F0 H0) i.lD y ∧ IniOk i ∧ ∀ H', Go M0 F0 H0 H' → Dt (Hd M0 F0 H') (vD C (mkV i.names i.lanes)) (.ref p) → Q .non H'
theorem spInit_len {C : Addr} : ∀ (vs : List L2.V) (H : Hp) (Q : VK) (E : XK), Sp_init C vs H Q E → vs.length = 3 := fun vs H Q E ⟨_, _, _, _, _, _, _, e, _⟩ => by rw [e]; rfl
abbrev N_init : List Str := ["self", "houses", "lanes", "wrong", "index", "lane", "other", "house", "one", "lost"]
def inDC : Scope := { kind := .function, names := [(Str.ofString ".0", .local), (Str.ofString "house", .local), (Str.ofString "self", .cell)], isGenerator := false, isCoroutine := false }
theorem r_fldX {to te : TE} {f : Str} {De : Ends} {tz : TS} {H : Hp} (h : te σ H fun y H1 => to σ H1 fun x H2 => ∃ a C dx fs, x = .ref a ∧ H2 a = some (.ins C dx fs) ∧ Cls K C ∧ NoAttr K C f ∧ fs.length < 1000 ∧ tz De σ (upd H2 a (.ins C dx (putF f y fs)))) : tSeq (sFld K to te f) tz De σ H := h
theorem At.ev {te : TE} {v : L2.V} (h : At M te σ B v) (hd : Dt B d v) : Ev M te σ B d := fun F H Q W k => h F H Q W fun H' g => k v H' g (hd.mono (W.go g).e.le)
theorem putK_map {ns : List Str} {g : Str → L2.V} {v : Str} {w : L2.V} (h : v ∈ ns) : putK (ns.map fun b => ((.inr b : L2.Key), g b)) (.inr v) w = ns.map fun b => ((.inr b : L2.Key), if b = v then w else g b) := by
  unfold putK
  rw [if_pos (by rw [List.any_eq_true]; exact ⟨(.inr v, g v), List.mem_map.mpr ⟨v, h, rfl⟩, by simp⟩), List.map_map]
  refine List.map_congr_left fun b hb => ?_
  by_cases z : b = v
  · subst z; simp
  · have : ¬ ((Sum.inr b : L2.Key) = .inr v) := fun q => z (Sum.inr.inj q)
    simp [z, this]
theorem valV_row {ns : List Str} {g : Str → L2.V} {v : Str} (h : v ∈ ns) : valV (ns.map fun b => ((.inr b : L2.Key), g b)) (.inr v) = some (g v) := by
  induction ns with
  | nil => cases h
  | cons a ns ih =>
    rw [List.map_cons]
    by_cases z : a = v
    · subst z; rw [valV_pos rfl]
    · rw [valV_neg (fun q => z (Sum.inr.inj q))]
      exact ih ((List.mem_cons.mp h).resolve_left fun q => z q.symm)
theorem inc_row {F0 F : List Addr} {H0 H : Hp} {q : Addr} {ns : List Str} {g : Str → Int} {v : Str} {td ty : TE} {De : Ends} (R : Rn M0 F0 H0 F B H) (hq : q ∈ F) (h0 : q ∉ F0) (ht : ∀ B', Ex B B' → At M0 td σ B' (.ref q)) (hk : ∀ B', Ex B B' → Ev M0 ty σ B' (.str v))
    (hv : H q = some (.dK (ns.map fun b => ((.inr b : L2.Key), L2.V.int (g b))))) (hm : v ∈ ns) (hz : ns.length < sizeLine)
    (k : ∀ B' H', Ex B B' → Rn M0 F0 H0 F B' (upd H' q (.dK (ns.map fun b => ((.inr b : L2.Key), L2.V.int (if b = v then g v + 1 else g b))))) → (∀ b ∈ F, b ≠ q → H' b = H b) → De.nx σ (upd H' q (.dK (ns.map fun b => ((.inr b : L2.Key), L2.V.int (if b = v then g v + 1 else g b)))))) :
    sDPut td ty (tOp (rI0 fun i j => .int (i + j)) (tDGet td ty) (tC (.int 1))) De σ H := by
  refine ht B (Ex.refl _) F H _ R.w fun H1 g1 => ?_
  have R1 := R.step g1
  have e1 := R.ext g1
  refine hk _ e1 F H1 _ R1.w fun y H2 g2 dy => ?_
  have ey : y = .str v := dy
  subst ey
  have R2 := R1.step g2
  have e2 := e1.trans (R1.ext g2)
  have hv2 : H2 q = some (.dK (ns.map fun b => ((.inr b : L2.Key), L2.V.int (g b)))) := by rw [g2.x q hq, g1.x q hq]; exact hv
  refine ⟨q, .int (g v), rfl, ?_, g v, 1, rfl, rfl, ?_⟩
  · have := DGet.k (k := .inr v) hv2
    rw [valV_row (g := fun b => L2.V.int (g b)) hm] at this
    exact this
  · refine ht _ e2 F H2 _ R2.w fun H3 g3 => ?_
    have R3 := R2.step g3
    have e3 := e2.trans (R2.ext g3)
    refine hk _ e3 F H3 _ R3.w fun y H4 g4 dy => ?_
    have ey : y = .str v := dy
    subst ey
    have R4 := R3.step g4
    have hv4 : H4 q = some (.dK (ns.map fun b => ((.inr b : L2.Key), L2.V.int (g b)))) := by rw [g4.x q hq, g3.x q hq]; exact hv2
    refine ⟨q, _, rfl, DPut.k (k := .inr v) hv4 (by rw [List.length_map]; exact hz), ?_⟩
    rw [putK_map (g := fun b => L2.V.int (g b)) hm]
    have ef : (ns.map fun b => ((.inr b : L2.Key), if b = v then L2.V.int (g v + 1) else L2.V.int (g b))) = ns.map fun b => ((.inr b : L2.Key), L2.V.int (if b = v then g v + 1 else g b)) := List.map_congr_left fun b _ => by
      by_cases z : b = v <;> simp [z]
    rw [ef]
    exact k _ H4 (e3.trans (R3.ext g4)) (R4.put hq (by intro z; cases z) h0 rfl) fun b hb _ => by rw [g4.x b hb, g3.x b hb, g2.x b hb, g1.x b hb]
theorem nodup_at {α : Type} {l : List α} (h : l.Nodup) {i j : Nat} {a : α} (h1 : l[i]? = some a) (h2 : l[j]? = some a) : i = j := by
  have hp := List.pairwise_iff_getElem.mp h
  obtain ⟨l1, e1⟩ := List.getElem?_eq_some_iff.mp h1
  obtain ⟨l2, e2⟩ := List.getElem?_eq_some_iff.mp h2
  rcases Nat.lt_trichotomy i j with z | z | z
  · exact absurd (e1.trans e2.symm) (hp i j l1 l2 z)
  · exact z
  · exact absurd (e2.trans e1.symm) (hp j i l2 l1 z)
theorem valV_zip {a : Str} {q : Addr} : ∀ {ns : List Str} {qs : List Addr} {j : Nat}, ns.Nodup → ns[j]? = some a → qs[j]? = some q → valV ((ns.zip qs).map fun z => ((.inr z.1 : L2.Key), L2.V.ref z.2)) (.inr a) = some (.ref q)
  | [], _, j, _, h, _ => by simp at h
  | b :: ns, [], j, _, _, h => by simp at h
  | b :: ns, q' :: qs, 0, _, h, h2 => by
    cases h; cases h2
    exact valV_pos rfl
  | b :: ns, q' :: qs, j + 1, nd, h, h2 => by
    rw [List.getElem?_cons_succ] at h h2
    have nd' := List.nodup_cons.mp nd
    have hm : a ∈ ns := List.mem_of_getElem? h
    rw [List.zip_cons_cons, List.map_cons, valV_neg (fun z => nd'.1 (by have e : b = a := Sum.inr.inj z; rw [e]; exact hm))]
    exact valV_zip nd'.2 h h2
theorem r_seq {tu tz : TS} {De : Ends} {H : Hp} (h : tu { De with nx := tz De } σ H) : tSeq tu tz De σ H := h
theorem cnt_snoc {ls : List (Str × Str)} {u v a b : Str} : cnt (ls ++ [(u, v)]) a b = cnt ls a b + (if (u = a ∧ v = b) ∨ (u = b ∧ v = a) then 1 else 0) := by
  unfold cnt
  rw [List.filter_append, List.length_append]
  by_cases z : (u = a ∧ v = b) ∨ (u = b ∧ v = a)
  · rw [if_pos z, List.filter_cons_of_pos (by simpa using z)]; simp
  · rw [if_neg z, List.filter_cons_of_neg (by simpa using z)]; simp
theorem rows_dt {H : Hp} {g : Str → D} : ∀ {ns : List Str} {qs : List Addr}, ns.length = qs.length → (∀ (j : Nat) (a : Str) (q : Addr), ns[j]? = some a → qs[j]? = some q → Dt H (g a) (.ref q)) → DtL H (ns.map g) (qs.map L2.V.ref)
  | [], [], _, _ => DtL.nil
  | [], _ :: _, h, _ => by cases h
  | _ :: _, [], h, _ => by cases h
  | a :: ns, q :: qs, h, k => DtL.cons (k 0 a q rfl rfl) (rows_dt (by simpa using h) fun j a' q' h1 h2 => k (j + 1) a' q' (by simpa using h1) (by simpa using h2))
theorem laneP_eq {t : D} {a b : Str} (h : sq t = some [.str a, .str b]) : laneP t = (a, b) := by unfold laneP; rw [h]
theorem ok_init {a1 a2 a3 a4 : Addr} (F : Fun K "__init__" "Village.__init__" s_Village_init f fd) (N : Bn mg) (T : VlF K C) (g1 : mg "first_bad_house" = some (.ref a1)) (O1 : OkF P w K mg base 2 a1 ["houses"] Sp_first_bad_house) (g2 : mg "is_list" = some (.ref a2)) (O2 : OkF P w K mg base 1 a2 ["thing"] (Sp_is_list C))
    (O3 : OkM P w K mg base 3 C "is_lane" a3 ["self", "thing"] (Sp_is_lane C)) (O4 : OkM P w K mg base 1 C "first_lost" a4 ["self"] (Sp_first_lost C)) : FnOk P w K mg base CX0 4 f fd ["self", "houses", "lanes"] (Sp_init C) := by
  refine F.ok sc_Village_init spInit_len (fun cdv A outer s H vs Q E hr h => ?_)
  obtain ⟨H0, F0, p, dx, ⟨hD, lD, names, lanes⟩, x, y, rfl, rfl, hp0, hdx0, hne, tr, hx, hy, io, k⟩ := h
  have hu := hu_of hr
  have hu10 : (A.deeper (envOfC "Village.__init__" (defScope s_Village_init) s.heap.objs.size f cdv)).units + 10 < cLine := by have := hr.units; omega
  have h16 := small16
  refine ⟨_, pss_cons (ps_set (i := 3) sc_Village_init.nd rfl (Or.inl rfl) (pe_c O1 (hr.mono (by decide)) g1 (pa_cons (pv 1) pa_nil)))
    (pss_cons (ps_if (pt_cmpR op_notN (pv 3) pe_non (nomark _)) pss_never pss_nil)
    (pss_cons (ps_fld (pv 0) (pe_callB (cr_sortD hu10) (by rfl) N.sorted (by decide +kernel) (pa_cons (pv 1) pa_nil)) rfl)
    (pss_cons (ps_if (pt_not (pt_val (pe_c O2 (hr.mono (by decide)) g2 (pa_cons (pv 2) pa_nil)))) pss_never pss_nil)
    (pss_cons (ps_for (g := gTup K 2 (gCons (gName 4) (gCons (gName 5) gNil))) PassesOwn.never (by rfl) (pi_enumS (by rfl) N.enumerate (pa_cons (pv 2) pa_nil)) (by exact pg_tup (by rfl) (pgs_cons (pg_name (i := 4) sc_Village_init.nd rfl (Or.inl rfl)) (pgs_cons (pg_name (i := 5) sc_Village_init.nd rfl (Or.inl rfl)) pgs_nil)))
      (pss_one (ps_if (pt_not (pt_val (pe_cm O3 hr T.v.ci.cl (pv 0) (pa_cons (pv 5) pa_nil)))) pss_never pss_nil)))
    (pss_cons (ps_fld (pv 0) (pe_callB (cr_sortD hu10) (by rfl) N.sorted (by decide +kernel) (pa_cons (pe_lc (te := tTup (tCons (tCB (rMM K minS) (tCons (tVar 5) tNil)) (tCons (tCB (rMM K maxS) (tCons (tVar 5) tNil)) tNil))) (own := [("lane", 5)]) (g := gName 5) (by rfl) sc_Village_init.nd (pi_seq (pv 2)) (blkOk_by (own := [("lane", 5)]) (N := N_init) (sc := defScope s_Village_init) (by decide +kernel)) (fun _ _ _ _ _ => pg_name (i := 5) sc_Village_init.nd rfl (Or.inl rfl)) (fun _ _ _ _ _ => pts_nil) (fun _ _ _ _ _ => (by exact (pe_tup (pa_cons (pe_callB (cr_minS rfl hu10) (by rfl) N.min (by decide +kernel) (pa_cons (pv 5) pa_nil)) (pa_cons (pe_callB (cr_maxS rfl hu10) (by rfl) N.max (by decide +kernel) (pa_cons (pv 5) pa_nil)) pa_nil)))))) pa_nil)) rfl)
    (pss_cons (ps_fld (pv 0) (pe_dc (tv := tDc (iList K (tFld K (tVar 0) "own_houses")) (gName 6) tYes (tVar 6) (tC (.int 0)) [6]) (own := [("house", 7)]) (g := gName 7) (by rfl) sc_Village_init.nd (pi_list (pe_fld (pv 0) rfl)) (blkOk_by (own := [("house", 7)]) (N := N_init) (sc := defScope s_Village_init) (by decide +kernel)) (fun _ _ _ _ _ => pg_name (i := 7) sc_Village_init.nd rfl (Or.inl rfl)) (fun _ _ _ _ _ => pts_nil) (fun _ _ _ _ _ => pv 7)
        (fun _ _ _ _ _ => by exact pe_dc (own := [("other", 6)]) (g := gName 6) (by rfl) sc_Village_init.nd (pi_list (pe_fld (pv 0) rfl)) (by show BlkOk N_init inDC _ _; exact blkOk_by (by decide +kernel)) (fun _ _ _ _ _ => pg_name (i := 6) sc_Village_init.nd rfl (Or.inl rfl)) (fun _ _ _ _ _ => pts_nil) (fun _ _ _ _ _ => pv 6) (fun _ _ _ _ _ => pe_int))) rfl)
    (pss_cons (ps_for (g := gTup K 2 (gCons (gName 8) (gCons (gName 6) gNil))) PassesOwn.never (by rfl) (pi_list (pe_fld (pv 0) rfl)) (by exact pg_tup (by rfl) (pgs_cons (pg_name (i := 8) sc_Village_init.nd rfl (Or.inl rfl)) (pgs_cons (pg_name (i := 6) sc_Village_init.nd rfl (Or.inl rfl)) pgs_nil)))
      (pss_cons (ps_dput hu (pe_dget hu (pe_fld (pv 0) rfl) (pv 8) (fun _ _ => rfl)) (pv 6) (pe_op op_add (pe_dget hu (pe_dget hu (pe_fld (pv 0) rfl) (pv 8) (fun _ _ => rfl)) (pv 6) (fun _ _ => rfl)) pe_int) rfl)
      (pss_one (ps_dput hu (pe_dget hu (pe_fld (pv 0) rfl) (pv 6) (fun _ _ => rfl)) (pv 8) (pe_op op_add (pe_dget hu (pe_dget hu (pe_fld (pv 0) rfl) (pv 6) (fun _ _ => rfl)) (pv 8) (fun _ _ => rfl)) pe_int) rfl))))
    (pss_cons (ps_set (i := 9) sc_Village_init.nd rfl (Or.inl rfl) (pe_cm0 O4 (hr.mono (by decide)) T.v.ci.cl (pv 0)))
    (pss_one (ps_if (pt_cmpR op_notN (pv 9) pe_non (nomark _)) pss_never pss_nil)))))))))), ?_⟩
  have hs : sq hD = some (names.map .str) := io.h
  have hls : sq lD = some lanes := io.l
  have pV : VOk (mkV names lanes) := io.v
  have hlen64 : lanes.length ≤ 64 := io.ls
  have h80 : (80 : Nat) < sizeLine := by decide
  have hnl : (mkV names lanes).ns.length ≤ 16 := pV.n
  -- the new instance
  have g0 := (wd0 tr).new hdx0 (.own p)
  have R1 := (Rn.begin (M := M0) (wd0 tr)).step g0
  have e01 := (Rn.begin (M := M0) (wd0 tr)).ext g0
  have hp1 : upd H0 dx (.own p) p = none := by rw [upd_ne hne.symm]; exact hp0
  have gp := R1.w.new hp1 (.ins C dx [])
  obtain ⟨R2, x2, n0, n0S⟩ := R1.own gp (Fr.of hp1) upd_same rfl
  have hx2 := hx.mono (e01.trans x2).le
  have hy2 := hy.mono (e01.trans x2).le
  refine r_set R2 (ev_callQ (inp := fun p : D × List Str => [p.1]) (hD, names) (ea_cons (ev_var rfl hx2) ea_nil) ⟨hs, io.n⟩) fun v3 B3 H3 e3 g3 R3 d3 => ?_
  refine r_if (b := false) R3 (et_cmp (ev_op (ev_var rfl d3) ev_non rv_notN)) (fun q => by cases q) (fun _ B4 H4 e4 g4 R4 => ?_)
  refine r_next ?_
  dsimp only
  have hp4 : H4 p = some (.ins C dx []) := by rw [g4.x p List.mem_cons_self, g3.x p List.mem_cons_self, upd_same]
  have hx4 := (hx2.mono e3.le).mono e4.le
  have hy4 := (hy2.mono e3.le).mono e4.le
  refine r_fset (d := nsD (mkV names lanes)) R4 List.mem_cons_self n0S n0 rfl hp4 T.v.ci.cl T.nH (by show 0 < 1000; decide) (EvF.ev (ef_cb (ea_cons (ev_var rfl hx4) ea_nil) (rcf_sortS hs))) fun vh B5 H5 e5 R5 hb5 dvh => ?_
  have hy5 := hy4.mono e5.le
  have hil : isListD lD = true := by cases lD <;> first | rfl | (cases hls)
  refine r_if (b := false) R5 (et_is (et_not (et_val (ev_call1 (r := .bl (isListD lD)) (ev_var rfl hy5) (okV_sq hls) rfl))) (by rw [hil]; rfl)) (fun q => by cases q) (fun _ B6 H6 e6 g6 R6 => ?_)
  refine r_next ?_
  dsimp only
  have fp : Fr H0 p := Fr.of hp0
  have hp6 : H6 p = some (.ins C dx [(("own_houses" : Str), vh)]) := by rw [g6.x p List.mem_cons_self, upd_same]; rfl
  have hy6 := hy5.mono e6.le
  have dvh6 := dvh.mono e6.le
  -- the lanes are looked at
  obtain ⟨R7, e7⟩ := R6.see (G := F0) (fun b hb => List.mem_cons_of_mem _ hb) (fun b hb => hb)
  have hpv7 : Hd M0 F0 H6 p = some (.ins C dx [(("own_houses" : Str), vh)]) := hd_some.mpr ⟨⟨n0S, n0⟩, hp6⟩
  have dself : ∀ {B' : Hp}, Ex (Hd M0 F0 H6) B' → Dt B' (.ins C ["own_houses"] [nsD (mkV names lanes)]) (.ref p) := fun e =>
    ins_mk (e p _ hpv7 rfl) rfl (DtL.cons ((dvh6.mono e7.le).mono e.le) DtL.nil)
  have hself : selfH C (mkV names lanes).ns (.ins C ["own_houses"] [nsD (mkV names lanes)]) := ⟨_, _, rfl, by
    have e1 : (("own_houses" : Str) == "own_houses") = true := by decide +kernel
    simp only [List.zip_cons_cons, List.lookup_cons, e1]; rfl⟩
  have hnmem : ∀ a ∈ names, a ∈ (mkV names lanes).ns := fun a ha => (List.mergeSort_perm names leS).mem_iff.mpr ha
  refine r_for R7 (ei_enumS hls (ea_cons (ev_var rfl (hy6.mono e7.le)) ea_nil)) (fun i σ B' H' => ∃ v4 v5, σ = [some (.ref p), some x, some y, some v3, v4, v5, none, none, none, none] ∧ Rn M0 F0 H0 F0 B' H') (fun i σ B' H' ⟨_, _, _, R⟩ => R) (fun B' H' e g R => ⟨none, none, rfl, R⟩) ?_ ?_
  · rintro i d' v σ' Bb B1' H1' B8 H8 eb eb1 hd' ⟨v4, v5, rfl, Ri⟩ e8 g8 R8 dv
    obtain ⟨t, ht, rfl⟩ := enumD_get hd'
    have htm : t ∈ lanes := List.mem_of_getElem? ht
    obtain ⟨la, lb, hst, hla, hlb, hlab⟩ := io.lo t htm
    have tg : Tg M0 (gTup K 2 (gCons (gName 4) (gCons (gName 5) gNil))) [some (.ref p), some x, some y, some v3, v4, v5, none, none, none, none] B8 (.tup [.int (i : Nat), t]) (fun σ2 B => ∃ v5', σ2 = [some (.ref p), some x, some y, some v3, some (.int (i : Nat)), some v5', none, none, none, none] ∧ Dt B t v5') :=
      tg_tup rfl (tgs_cons (tg_name fun B5 v5 e5 d5 => tgs_cons (tg_name fun B6 v6 e6 d6 => tgs_nil fun B7 e7 => ⟨v6, by rw [show v5 = .int (i : Nat) from d5]; rfl, d6.mono e7.le⟩)))
    refine tg F0 B8 H8 v _ (Ex.refl _) R8.w dv ?_
    rintro σ2 ⟨v5', rfl, dt5⟩
    refine r_if1 (b := false) R8 (et_is (et_not (et_val (ev_meth (inp := fun p : Lane => [p.s, p.t]) (⟨_, (mkV names lanes).ns, t⟩ : Lane) (ev_var rfl (dself ((eb.trans eb1).trans e8))) (by decide +kernel) (fun ds h => by cases h; exact ea_cons (ev_var rfl dt5) ea_nil) rfl ⟨hself, la, lb, hst, hnmem _ hla, hnmem _ hlb, hlab⟩))) rfl) (fun q => by cases q) (fun _ B9 H9 e9 g9 R9 => ?_)
    exact ⟨B9, (eb1.trans e8).trans e9, _, _, rfl, R9⟩
  · rintro σ' B8 H8 eB ⟨v4, v5, rfl, R8⟩
    -- hidden again
    have ex8 : Ex (Hd M0 F0 H6) B8 := eB
    have hp8 : H8 p = some (.ins C dx [(("own_houses" : Str), vh)]) := (hd_some.mp (R8.w.e p _ (ex8 p _ hpv7 rfl) rfl)).2
    have R9 := R8.hide fp hp8
    have exb : ∀ {Bq : Hp}, Ex Bq (Hd M0 (p :: F0) H6) → Ex Bq (Hd M0 (p :: F0) H8) := fun e =>
      ex_hide (H1 := H8) (((e.trans (hd_sub fun b hb => List.mem_cons_of_mem _ hb)).trans ex8).trans R8.w.e) (fun o h n => (hd_some.mp (e p o h n)).1.2 List.mem_cons_self)
    have e69 : Ex B6 (Hd M0 (p :: F0) H8) := exb R6.w.e
    have hy9 := hy6.mono e69.le
    have dvh9 := dvh6.mono e69.le
    refine r_fset (d := .lst ((mkV names lanes).ls.map pD)) R9 List.mem_cons_self n0S n0 rfl hp8 T.v.ci.cl T.nL (by show 1 < 1000; decide) (EvF.ev (ef_cb (ea_cons (EvF.ev (ef_is (ef_lcm (ys := lanes) (fun t => pD (mm (laneP t))) (ei_seq hls (ev_var rfl hy9)) (by omega) ?_) (?_ : _ = (lanes.map fun t => mm (laneP t)).map pD))) ea_nil) (rcf_sortSS rfl))) fun vl B10 H10 e10 R10 hb10 dvl => ?_
    · intro t htm
      obtain ⟨la, lb, hst, hla, hlb, hlab⟩ := io.lo t htm
      refine turn_name (fun _ => rfl) fun B' z e dz => ⟨et_yes, fun _ => ?_⟩
      rw [laneP_eq hst]
      exact ev_tup (ea_cons (ev_cb (ea_cons (ev_var rfl dz) ea_nil) (rc_mm hst)) (ea_cons (ev_cb (ea_cons (ev_var rfl dz) ea_nil) (rc_mm hst)) ea_nil)) (show (2 : Nat) ≤ sizeLine by decide)
    · rw [List.map_map]; rfl
    · have eput : putF ("own_lanes" : Str) vl [(("own_houses" : Str), vh)] = [(("own_houses" : Str), vh), (("own_lanes" : Str), vl)] := by
        show (if ("own_houses" : Str) = "own_lanes" then _ else _) = _
        rw [if_neg (by decide +kernel)]; rfl
      rw [eput] at R10 ⊢
      have nd := pV.nd
      have hp10 : (upd H10 p (.ins C dx [(("own_houses" : Str), vh), (("own_lanes" : Str), vl)])) p = some (.ins C dx [(("own_houses" : Str), vh), (("own_lanes" : Str), vl)]) := upd_same
      revert R10 hp10
      generalize upd H10 p (.ins C dx [(("own_houses" : Str), vh), (("own_lanes" : Str), vl)]) = H11
      intro R10 hp10
      have dvh10 := dvh9.mono e10.le
      obtain ⟨R11, e11⟩ := R10.see (G := F0) (fun b hb => List.mem_cons_of_mem _ hb) (fun b hb => hb)
      have hpv11 : Hd M0 F0 H11 p = some (.ins C dx [(("own_houses" : Str), vh), (("own_lanes" : Str), vl)]) := hd_some.mpr ⟨⟨n0S, n0⟩, hp10⟩
      have evh : ∀ {B' : Hp} {σ : L2.St}, Ex (Hd M0 F0 H11) B' → σ[0]? = some (some (.ref p)) → Ev M0 (tFld K (tVar 0) "own_houses") σ B' (nsD (mkV names lanes)) := fun e z =>
        At.ev (At.fld T.v.ci.cl T.nH (At.var z) (e p _ hpv11 rfl) (by
          have e1 : (("own_houses" : Str) == "own_houses") = true := by decide +kernel
          simp only [List.lookup_cons, e1])) ((dvh10.mono e11.le).mono e.le)
      have row0 : ∀ (F : List Addr) (B' H' : Hp) (σ : L2.St) (Qq : VK), Ex (Hd M0 F0 H11) B' → σ[0]? = some (some (.ref p)) → (wipe σ [6])[0]? = σ[0]? → (∀ z, wipe ((wipe σ [6]).set 6 (some z)) [6] = wipe σ [6]) → (∀ z : L2.V, ((wipe σ [6]).set 6 (some z))[6]? = some (some z)) → Wd M0 F B' H' → (∀ q H'', Fr H' q → Go M0 F H' H'' → H'' q = some (.dK ((mkV names lanes).ns.map fun b => ((.inr b : L2.Key), L2.V.int (cnt [] b b)))) → Qq (.ref q) H'') →
          tDc (iList K (tFld K (tVar 0) "own_houses")) (gName 6) tYes (tVar 6) (tC (.int 0)) [6] σ H' Qq := by
        intro F B' H' σ Qq e z zw zz z6 W kk
        refine eg_dcm (M := M0) (B := B') (ys := (mkV names lanes).ns) (en := D.str) .inr (fun _ => .int 0) (ei_list (evh e z)) (by omega) (nodup_inr nd) (fun b hb F' B'' H'' u Q' e' W' du k' => ?_) F H' Qq W fun q es H'' hq g' e1 ek ed => kk q H'' hq g' ?_
        · exact k' _ (zz u) et_yes fun _ => ⟨ev_var (z6 u) du, ev_int⟩
        · rw [e1]
          have ev := (show DtL _ (((mkV names lanes).ns.map fun _ => (0 : Int)).map D.int) (es.map (·.2)) by rw [List.map_map]; exact ed).ints
          have : es = (mkV names lanes).ns.map fun b => ((.inr b : L2.Key), L2.V.int 0) := by
            have e3 : es = (es.map (·.1)).zip (es.map (·.2)) := by
              rw [List.zip_map']; simp
            rw [e3, ek, ev, List.map_map, List.zip_map']; rfl
          rw [this]; rfl
      refine r_fldX ?_
      refine eg_dcN (σ := [some (.ref p), some x, some y, some v3, v4, v5, none, none, none, none]) (M := M0) (B := Hd M0 F0 H11) (t := tYes) (es0 := (mkV names lanes).ns.map fun b => ((.inr b : L2.Key), L2.V.int (cnt [] b b))) (ys := (mkV names lanes).ns) (ei_list (evh (Ex.refl _) rfl)) (by omega) nd (fun a ha F' B' H' u Q' e' W' du k' => ?_) R11.w fun bp bes qs H12 fbp hqn hbq hqf g12 hb12 hbk hbv hq12 => ?_
      · exact k' _ rfl et_yes (ev_var rfl du) fun F H Q W kk => row0 F _ H _ Q e' rfl rfl (fun _ => rfl) (fun _ => rfl) W kk
      have hp12 : H12 p = some (.ins C dx [(("own_houses" : Str), vh), (("own_lanes" : Str), vl)]) := (hd_some.mp (g12.e p _ hpv11 rfl)).2
      refine ⟨_, rfl, p, C, dx, _, rfl, hp12, T.v.ci.cl, T.nB, (by show 2 < 1000; decide), ?_⟩
      have eput3 : putF ("own_between" : Str) (.ref bp) [(("own_houses" : Str), vh), (("own_lanes" : Str), vl)] = [(("own_houses" : Str), vh), (("own_lanes" : Str), vl), (("own_between" : Str), .ref bp)] := by
        show (if ("own_houses" : Str) = "own_between" then _ else (_ :: if ("own_lanes" : Str) = "own_between" then _ else _)) = _
        rw [if_neg (by decide +kernel), if_neg (by decide +kernel)]; rfl
      rw [eput3]
      have hH11p : H11 p ≠ none := by rw [hp10]; simp
      have hqp : ∀ q ∈ qs, q ≠ p := fun q hq z => by subst z; exact hqf q hq _ hp10 rfl
      have hbpp : bp ≠ p := fun z => by subst z; exact fbp _ hp10 rfl
      have hqlen : qs.length = (mkV names lanes).ns.length := by
        have h1 := congrArg List.length hbk
        have h2 := congrArg List.length hbv
        rw [List.length_map, List.length_map] at h1 h2
        omega
      -- what is known, the inner dicts hidden
      have exq : ∀ {Bq : Hp}, Ex Bq (Hd M0 (p :: F0) H11) → Ex Bq (Hd M0 (qs ++ F0) (upd H12 p (.ins C dx [(("own_houses" : Str), vh), (("own_lanes" : Str), vl), (("own_between" : Str), .ref bp)]))) := fun e b o h n => by
        obtain ⟨⟨_, hb⟩, h11⟩ := hd_some.mp (e b o h n)
        have hbp : b ≠ p := fun z => hb (by rw [z]; exact List.mem_cons_self)
        have hbF : b ∉ F0 := fun z => hb (List.mem_cons_of_mem _ z)
        have h12 := (hd_some.mp (g12.e b o (hd_some.mpr ⟨⟨(by intro z; cases z), hbF⟩, h11⟩) n)).2
        refine hd_some.mpr ⟨⟨(by intro z; cases z), fun z => ?_⟩, by rw [upd_ne hbp]; exact h12⟩
        rcases List.mem_append.mp z with z | z
        · exact hqf b z o h11 n
        · exact hbF z
      have R12 : Rn M0 F0 H0 (qs ++ F0) (Hd M0 (qs ++ F0) (upd H12 p (.ins C dx [(("own_houses" : Str), vh), (("own_lanes" : Str), vl), (("own_between" : Str), .ref bp)]))) (upd H12 p (.ins C dx [(("own_houses" : Str), vh), (("own_lanes" : Str), vl), (("own_between" : Str), .ref bp)])) := by
        refine ⟨⟨Ex.refl _, True.intro, fun b hb => ?_⟩, exq (R10.e0.trans R10.w.e), fun b hb => List.mem_append.mpr (.inr hb), fun b hb => ?_⟩
        · rcases List.mem_append.mp hb with z | z
          · exact ⟨_, by rw [upd_ne (hqp b z)]; exact hq12 b z, rfl⟩
          · obtain ⟨o, ho, n⟩ := R11.w.f b z
            exact ⟨o, by rw [upd_ne (fun y => n0 (by rw [← y]; exact z)), g12.x b z]; exact ho, n⟩
        · rw [upd_ne (fun y => n0 (by rw [← y]; exact hb)), g12.x b hb]
          exact R11.x b hb
      have dvhQ := dvh10.mono (exq R10.w.e).le
      have dvlQ := dvl.mono (exq R10.w.e).le
      have hpQ : (upd H12 p (.ins C dx [(("own_houses" : Str), vh), (("own_lanes" : Str), vl), (("own_between" : Str), .ref bp)])) p = some (.ins C dx [(("own_houses" : Str), vh), (("own_lanes" : Str), vl), (("own_between" : Str), .ref bp)]) := upd_same
      have hbQ : (upd H12 p (.ins C dx [(("own_houses" : Str), vh), (("own_lanes" : Str), vl), (("own_between" : Str), .ref bp)])) bp = some (.dK bes) := by rw [upd_ne hbpp]; exact hb12
      have hqQ : ∀ q ∈ qs, (upd H12 p (.ins C dx [(("own_houses" : Str), vh), (("own_lanes" : Str), vl), (("own_between" : Str), .ref bp)])) q = some (.dK ((mkV names lanes).ns.map fun b => ((.inr b : L2.Key), L2.V.int (cnt [] b b)))) := fun q hq => by rw [upd_ne (hqp q hq)]; exact hq12 q hq
      revert R12 dvhQ dvlQ hpQ hbQ hqQ
      generalize upd H12 p (.ins C dx [(("own_houses" : Str), vh), (("own_lanes" : Str), vl), (("own_between" : Str), .ref bp)]) = H13
      intro R12 dvhQ dvlQ hpQ hbQ hqQ
      have fbp0 : Fr H0 bp := R11.fr fbp
      have hbpF : bp ∉ F0 := fun z => by
        obtain ⟨o, ho, n⟩ := tr bp z
        exact fbp0 o ho n
      have hpq : p ∉ qs ++ F0 := fun z => (List.mem_append.mp z).elim (fun z => hqp p z rfl) n0
      have hbpq : bp ∉ qs ++ F0 := fun z => (List.mem_append.mp z).elim hbq hbpF
      have pB : Hd M0 (qs ++ F0) H13 p = some (.ins C dx [(("own_houses" : Str), vh), (("own_lanes" : Str), vl), (("own_between" : Str), .ref bp)]) := hd_some.mpr ⟨⟨n0S, hpq⟩, hpQ⟩
      have bB : Hd M0 (qs ++ F0) H13 bp = some (.dK bes) := hd_some.mpr ⟨⟨(by intro z; cases z), hbpq⟩, hbQ⟩
      have k1 : (("own_lanes" : Str) == "own_houses") = false := by decide +kernel
      have k2 : (("own_lanes" : Str) == "own_lanes") = true := by decide +kernel
      have k3 : (("own_between" : Str) == "own_houses") = false := by decide +kernel
      have k4 : (("own_between" : Str) == "own_lanes") = false := by decide +kernel
      have k5 : (("own_between" : Str) == "own_between") = true := by decide +kernel
      have rowAt : ∀ {B' : Hp} {σ : L2.St} {tk : TE} {j : Nat} {a : Str} {q : Addr}, Ex (Hd M0 (qs ++ F0) H13) B' → σ[0]? = some (some (.ref p)) → (mkV names lanes).ns[j]? = some a → qs[j]? = some q → Ev M0 tk σ B' (.str a) → At M0 (tDGet (tFld K (tVar 0) "own_between") tk) σ B' (.ref q) := fun {B' σ tk j a q} e z ha hq hk =>
        At.dget (q := .inr a) (At.fld T.v.ci.cl T.nB (At.var z) (e p _ pB rfl) (by simp only [List.lookup_cons, k3, k4, k5])) hk (.inl (e bp _ bB rfl)) (by
          have eb : bes = ((mkV names lanes).ns.zip qs).map fun z => ((.inr z.1 : L2.Key), L2.V.ref z.2) := by
            have e3 : bes = (bes.map (·.1)).zip (bes.map (·.2)) := by
              rw [List.zip_map']; simp
            rw [e3, hbk, hbv, List.zip_map]; rfl
          rw [eb]
          exact valV_zip nd ha hq)
      have qget : ∀ {a : Str}, a ∈ (mkV names lanes).ns → ∃ (j : Nat) (q : Addr), (mkV names lanes).ns[j]? = some a ∧ qs[j]? = some q ∧ q ∈ qs := fun {a} ha => by
        obtain ⟨j, hj⟩ := List.getElem?_of_mem ha
        have hlt := (List.getElem?_eq_some_iff.mp hj).1
        exact ⟨j, _, hj, List.getElem?_eq_getElem (by omega), List.getElem_mem _⟩
      have qF0 : ∀ q ∈ qs, q ∉ F0 := fun q hq z => by
        obtain ⟨o, ho, n⟩ := R11.w.f q z
        exact hqf q hq o ho n
      refine r_for R12 (ei_list (At.ev (At.fld T.v.ci.cl T.nL (At.var rfl) pB (by simp only [List.lookup_cons, k1, k2])) dvlQ)) (fun i σ B' H' => ∃ v8 v6, σ = [some (.ref p), some x, some y, some v3, v4, v5, v6, none, v8, none] ∧ Rn M0 F0 H0 (qs ++ F0) B' H' ∧ ∀ (j : Nat) (a : Str) (q : Addr), (mkV names lanes).ns[j]? = some a → qs[j]? = some q → H' q = some (.dK ((mkV names lanes).ns.map fun b => ((.inr b : L2.Key), L2.V.int (cnt ((mkV names lanes).ls.take i) a b)))))
        (fun i σ B' H' ⟨_, _, _, R, _⟩ => R) (fun B' H' e g R => ⟨none, none, rfl, R, fun j a q ha hq => by rw [g.x q (List.mem_append.mpr (.inl (List.mem_of_getElem? hq)))]; exact hqQ q (List.mem_of_getElem? hq)⟩) ?_ ?_
      · rintro i d' v σ' Bb B1' H1' B14 H14 eb eb1 hd' ⟨v8, v6, rfl, Ri, hrows⟩ e14 g14 R14 dv
        rw [List.getElem?_map] at hd'
        obtain ⟨⟨u, v'⟩, huv, rfl⟩ := Option.map_eq_some_iff.mp hd'
        obtain ⟨hu', hv', huv'⟩ := pV.le _ (List.mem_of_getElem? huv)
        dsimp only at hu' hv' huv'
        obtain ⟨ju, qu, hju, hqu, hqum⟩ := qget hu'
        obtain ⟨jv, qv, hjv, hqv, hqvm⟩ := qget hv'
        have hquv : qu ≠ qv := fun z => by
          subst z
          have : ju = jv := nodup_at hqn hqu hqv
          subst this
          rw [hju] at hjv
          cases hjv
          exact huv' rfl
        have tg : Tg M0 (gTup K 2 (gCons (gName 8) (gCons (gName 6) gNil))) [some (.ref p), some x, some y, some v3, v4, v5, v6, none, v8, none] B14 (pD (u, v')) (fun σ2 B => σ2 = [some (.ref p), some x, some y, some v3, v4, v5, some (.str v'), none, some (.str u), none]) :=
          tg_tup rfl (tgs_cons (tg_name fun B5 v5 e5 d5 => tgs_cons (tg_name fun B6 v6 e6 d6 => tgs_nil fun B7 e7 => by rw [show v5 = .str u from d5, show v6 = .str v' from d6]; rfl)))
        refine tg (qs ++ F0) B14 H14 v _ (Ex.refl _) R14.w dv ?_
        rintro σ2 rfl
        have exB : Ex (Hd M0 (qs ++ F0) H13) B14 := (eb.trans eb1).trans e14
        have hrow14 : ∀ (j : Nat) (a : Str) (q : Addr), (mkV names lanes).ns[j]? = some a → qs[j]? = some q → H14 q = some (.dK ((mkV names lanes).ns.map fun b => ((.inr b : L2.Key), L2.V.int (cnt ((mkV names lanes).ls.take i) a b)))) := fun j a q h1 h2 => by
          rw [g14.x q (List.mem_append.mpr (.inl (List.mem_of_getElem? h2)))]; exact hrows j a q h1 h2
        refine r_seq (inc_row (g := fun b => cnt ((mkV names lanes).ls.take i) u b) (v := v') R14 (List.mem_append.mpr (.inl hqum)) (qF0 qu hqum) (fun B' e => rowAt (exB.trans e) rfl hju hqu (ev_var rfl rfl)) (fun B' e => ev_var rfl rfl) (hrow14 ju u qu hju hqu) hv' (by omega) fun B15 H15 e15 R15 hb15 => ?_)
        dsimp only
        refine inc_row (g := fun b => cnt ((mkV names lanes).ls.take i) v' b) (v := u) R15 (List.mem_append.mpr (.inl hqvm)) (qF0 qv hqvm) (fun B' e => rowAt ((exB.trans e15).trans e) rfl hjv hqv (ev_var rfl rfl)) (fun B' e => ev_var rfl rfl) (by rw [upd_ne (fun z => hquv z.symm), hb15 qv (List.mem_append.mpr (.inl hqvm)) (fun z => hquv z.symm)]; exact hrow14 jv v' qv hjv hqv) hu' (by omega) fun B16 H16 e16 R16 hb16 => ?_
        refine ⟨B16, ((eb1.trans e14).trans e15).trans e16, _, _, rfl, R16, fun j a q ha hq => ?_⟩
        have hqm := List.mem_of_getElem? hq
        have etake : (mkV names lanes).ls.take (i + 1) = (mkV names lanes).ls.take i ++ [(u, v')] := by rw [List.take_succ, huv]; rfl
        have jeq : ∀ {j' : Nat} {a' : Str}, (mkV names lanes).ns[j']? = some a' → a = a' → j = j' := fun {j' a'} h z => by
          subst z
          exact nodup_at nd ha h
        have qeq : ∀ {j' : Nat} {q' : Addr}, qs[j']? = some q' → q = q' → j = j' := fun {j' q'} h z => by
          subst z
          exact nodup_at hqn hq h
        rw [etake]
        by_cases zv : q = qv
        · have := qeq hqv zv
          subst this
          rw [hjv] at ha; cases ha
          subst zv
          rw [upd_same]
          refine congrArg (fun l => some (HO.dK l)) (List.map_congr_left fun b _ => ?_)
          rw [cnt_snoc]
          by_cases zb : b = u
          · subst zb; simp
          · have zb' : ¬ u = b := fun z => zb z.symm
            simp [zb, zb', huv']
        · by_cases zu : q = qu
          · have := qeq hqu zu
            subst this
            rw [hju] at ha; cases ha
            subst zu
            rw [upd_ne zv, hb16 q (List.mem_append.mpr (.inl hqm)) zv, upd_same]
            refine congrArg (fun l => some (HO.dK l)) (List.map_congr_left fun b _ => ?_)
            rw [cnt_snoc]
            have h2 : ¬ v' = u := fun z => huv' z.symm
            by_cases zb : b = v'
            · subst zb; simp
            · have zb' : ¬ v' = b := fun z => zb z.symm
              simp [zb, zb', h2]
          · rw [upd_ne zv, hb16 q (List.mem_append.mpr (.inl hqm)) zv, upd_ne zu, hb15 q (List.mem_append.mpr (.inl hqm)) zu, hrow14 j a q ha hq]
            have a1 : ¬ u = a := fun z => by
              have := jeq hju z.symm
              subst this
              rw [hqu] at hq; cases hq
              exact zu rfl
            have a2 : ¬ v' = a := fun z => by
              have := jeq hjv z.symm
              subst this
              rw [hqv] at hq; cases hq
              exact zv rfl
            refine congrArg (fun l => some (HO.dK l)) (List.map_congr_left fun b _ => ?_)
            rw [cnt_snoc]
            simp [a1, a2]
      · rintro σ' B17 H17 e17 ⟨v8, v6, rfl, R17, hrows⟩
        rw [List.length_map, List.take_length] at hrows
        -- all is seen
        obtain ⟨R18, e18⟩ := R17.see (G := F0) (fun b hb => List.mem_append.mpr (.inr hb)) (fun b hb => hb)
        have ex18 : Ex (Hd M0 (qs ++ F0) H13) (Hd M0 F0 H17) := e17.trans e18
        have rows : DtL (Hd M0 F0 H17) ((mkV names lanes).ns.map (rowB (mkV names lanes).ls (mkV names lanes).ns)) (qs.map L2.V.ref) := rows_dt hqlen.symm fun j a q ha hq => by
          have hv : Hd M0 F0 H17 q = some (.dK ((mkV names lanes).ns.map fun b => ((.inr b : L2.Key), L2.V.int (cnt (mkV names lanes).ls a b)))) := hd_some.mpr ⟨⟨(by intro z; cases z), qF0 q (List.mem_of_getElem? hq)⟩, hrows j a q ha hq⟩
          have := dic_mk (l := (mkV names lanes).ns.map fun b => D.int (cnt (mkV names lanes).ls a b)) (.inl hv) (by
            rw [List.map_map]
            have e : ((fun x : L2.Key × L2.V => x.2) ∘ fun b => ((.inr b : L2.Key), L2.V.int (cnt (mkV names lanes).ls a b))) = fun b => L2.V.int (cnt (mkV names lanes).ls a b) := rfl
            have e2 : ((mkV names lanes).ns.map fun b => D.int (cnt (mkV names lanes).ls a b)) = ((mkV names lanes).ns.map fun b => cnt (mkV names lanes).ls a b).map D.int := by rw [List.map_map]; rfl
            rw [e, e2]
            have := DtL.ofInts (H := Hd M0 F0 H17) ((mkV names lanes).ns.map fun b => cnt (mkV names lanes).ls a b)
            rw [List.map_map, List.map_map] at this
            rw [List.map_map]
            exact this)
          rw [List.map_map] at this
          exact this
        have bw : Dt (Hd M0 F0 H17) (bwD (mkV names lanes)) (.ref bp) := by
          have := dic_mk (l := (mkV names lanes).ns.map (rowB (mkV names lanes).ls (mkV names lanes).ns)) (.inl (ex18 bp _ bB rfl) : Rd (Hd M0 F0 H17) bp (.dK bes)) (by rw [hbv]; exact rows)
          rw [hbk] at this
          exact this
        have dV : ∀ {B' : Hp}, Ex (Hd M0 F0 H17) B' → Dt B' (vD C (mkV names lanes)) (.ref p) := fun e =>
          ins_mk (e p _ (ex18 p _ pB rfl) rfl) rfl (DtL.cons ((dvhQ.mono ex18.le).mono e.le) (DtL.cons ((dvlQ.mono ex18.le).mono e.le) (DtL.cons (bw.mono e.le) DtL.nil)))
        refine r_set R18 (ev_meth (inp := fun V : Vl => [vD C V]) (mkV names lanes) (ev_var rfl (dV (Ex.refl _))) (by decide +kernel) (fun ds h => by cases h; exact ea_nil) rfl ⟨pV, io.c⟩) fun v9 B19 H19 e19 g19 R19 d9 => ?_
        refine r_if1 (b := false) R19 (et_cmp (ev_op (ev_var rfl d9) ev_non rv_notN)) (fun q => by cases q) (fun _ B20 H20 e20 g20 R20 => ?_)
        exact k H20 R20.go (R20.dt (dV (e19.trans e20)))
end
end Pg

/-! DLS: the stream that the drawing defs share: a list and its inner list, bounded. -/
namespace DL
open PySem PySem.Spec PyProof.Rows L2
/-- the stream at s, its cells at t; at most n draws were made -/
def StI (s t : Addr) (n : Nat) (H : Hp) : Prop := ∃ (cells : List Int) (a : Int) (b : Nat) (c : Int), H s = some (.lst [.ref t, .int a, .int (b : Nat), .int c]) ∧ H t = some (.lst (cells.map V.int)) ∧ 0 ≤ a ∧ b ≤ n ∧ 0 ≤ c ∧ c < 2147483629
def St (s t : Addr) (n : Nat) : Md where
  S := [s, t]
  I := StI s t n
  ex := fun H H' h ⟨cells, a, b, c, h1, h2, h3⟩ => ⟨cells, a, b, c, by rw [h s (by simp)]; exact h1, by rw [h t (by simp)]; exact h2, h3⟩
  tr := fun H ⟨cells, a, b, c, h1, h2, h3⟩ x hx => by
    rcases List.mem_cons.mp hx with rfl | hx
    · exact ⟨_, h1, rfl⟩
    · rw [List.mem_singleton] at hx
      subst hx
      exact ⟨_, h2, rfl⟩
def Dj (s t : Addr) (F : List Addr) : Prop := s ∉ F ∧ t ∉ F
section
variable {s t : Addr} {n m : Nat} {F0 F G : List Addr} {H0 H H' B B' : Hp} {p : Addr} {d d1 d2 d3 : D} {σ : L2.St} {te ta tb tc tk tv : TE} {De : Ends} {tz : TS} {K : PySem.W.Frag}
theorem StI.up (h : StI s t n H) (hn : n ≤ m) : StI s t m H := by
  obtain ⟨cells, a, b, c, h1, h2, h3, h4, h5⟩ := h
  exact ⟨cells, a, b, c, h1, h2, h3, Nat.le_trans h4 hn, h5⟩
theorem Rn.stepS (R : Rn (St s t n) F0 H0 F B H) (g : Go (St s t m) F H H') : Rn (St s t m) F0 H0 F (Hd (St s t m) F H') H' ∧ Ex B (Hd (St s t m) F H') := by
  have ee : Ex B (Hd (St s t m) F H') := R.w.e.trans g.e
  refine ⟨⟨⟨Ex.refl _, g.i, fun b hb => ?_⟩, R.e0.trans ee, R.s, fun b hb => by rw [g.x b (R.s b hb), R.x b hb]⟩, ee⟩
  obtain ⟨o, ho, hn⟩ := R.w.f b hb
  exact ⟨o, by rw [g.x b hb]; exact ho, hn⟩
theorem Rn.upS (R : Rn (St s t n) F0 H0 F B H) (hn : n ≤ m) : Rn (St s t m) F0 H0 F B H := ⟨⟨R.w.e, StI.up R.w.i hn, R.w.f⟩, R.e0, R.s, R.x⟩
theorem Rn.goS (R : Rn (St s t n) F0 H0 F B H) : Go (St s t n) F0 H0 H := R.go
theorem hd_putS {a : Addr} {o : HO} (h : a ∈ [s, t]) : Hd (St s t n) F (upd H a o) = Hd (St s t n) F H := by
  funext b
  unfold Hd
  by_cases z : b ∈ (St s t n).S ∨ b ∈ F
  · rw [if_pos z, if_pos z]
  · rw [if_neg z, if_neg z, upd_ne fun q => z (.inl (by rw [q]; exact h))]
/-- the stream is changed -/
theorem Rn.putS {a : Addr} {o : HO} (R : Rn (St s t n) F0 H0 F B H) (h : a ∈ [s, t]) (hF : a ∉ F) (i : StI s t m (upd H a o)) : Rn (St s t m) F0 H0 F B (upd H a o) := by
  refine ⟨⟨?_, i, fun b hb => ?_⟩, R.e0, R.s, fun b hb => ?_⟩
  · have := hd_putS (n := m) (F := F) (H := H) (o := o) h
    rw [this]; exact R.w.e
  · obtain ⟨u, hu, hn⟩ := R.w.f b hb
    exact ⟨u, by rw [upd_ne fun z => hF (by rw [← z]; exact hb)]; exact hu, hn⟩
  · rw [upd_ne fun z => hF (by rw [← z]; exact R.s b hb)]; exact R.x b hb
/-- a drawing def's promise: what comes out is not computed, only bounded -/
def SpS {α : Type} (cost : α → Nat) (inp : α → List D) (pre : α → Prop) (post : α → D → Prop) : Sp := fun vs H Q _ => ∃ (s t : Addr) (n : Nat) (F : List Addr) (a : α) (ws : List V), vs = .ref s :: ws ∧ Dj s t F ∧ s ≠ t ∧ Wd (St s t n) F (Hd (St s t n) F H) H ∧ DtL (Hd (St s t n) F H) (inp a) ws ∧ pre a ∧ n + cost a ≤ 2 ^ 40 ∧
  ∀ v H' d, post a d → Go (St s t (n + cost a)) F H H' → Dt (Hd (St s t (n + cost a)) F H') d v → Q v H'
theorem SpS.len {α : Type} {cost : α → Nat} {inp : α → List D} {pre : α → Prop} {post : α → D → Prop} {k : Nat} (h : ∀ a, (inp a).length + 1 = k) : ∀ (vs : List V) (H : Hp) (Q : VK) (E : XK), SpS cost inp pre post vs H Q E → vs.length = k := fun vs H Q E ⟨s, t, n, F, a, ws, e, _, _, _, hd, _⟩ => by
  rw [e, List.length_cons, hd.length, h]
theorem r_callS {α : Type} {cost : α → Nat} {inp : α → List D} {pre : α → Prop} {post : α → D → Prop} {i : Nat} {tr : TA} {E : XK} {Q : VK} (a : α) (R : Rn (St s t n) F0 H0 F B H) (dj : Dj s t F) (ne : s ≠ t) (hi : σ[i]? = some (some (.ref s))) (ha : EvA (St s t n) tr σ B (inp a)) (p : pre a) (hc : n + cost a ≤ 2 ^ 40)
    (k : ∀ v B' H' d, post a d → Ex B B' → (∀ b ∈ F, H' b = H b) → Rn (St s t (n + cost a)) F0 H0 F B' H' → Dt B' d v → Q v H') : tCall (SpS cost inp pre post) [] E (tCons (tVar i) tr) σ H Q :=
  ⟨_, hi, ha F H _ R.w fun ws H1 g1 hw => by
    have R1 := R.step g1
    refine ⟨s, t, n, F, a, ws, by rw [List.append_nil], dj, ne, R1.w, hw, p, hc, fun v H' d pd g2 dv => ?_⟩
    obtain ⟨R2, e2⟩ := R1.stepS g2
    exact k v _ H' d pd ((R.ext g1).trans e2) (fun b hb => by rw [g2.x b hb, g1.x b hb]) R2 dv⟩
end
end DL

namespace Pg
open PySem PySem.Spec PyProof.Rows L2 DL RX
section
variable {K : PySem.W.Frag} {σ : L2.St} {H : Hp} {te ta tb : TE} {i j : Int} {p : Addr} {De : Ends} {tz : TS}
/-! exact evaluation, nothing changes -/
def XI (te : TE) (σ : L2.St) (H : Hp) (i : Int) : Prop := ∀ Q : VK, Q (.int i) H → te σ H Q
theorem xi_c : XI (tC (.int i)) σ H i := fun Q q => q
theorem xi_var {n : Nat} (h : σ[n]? = some (some (.int i))) : XI (tVar n) σ H i := fun Q q => ⟨_, h, q⟩
theorem xi_op {f : Int → Int → Int} (ha : XI ta σ H i) (hb : XI tb σ H j) : XI (tOp (rI0 fun i j => .int (f i j)) ta tb) σ H (f i j) := fun Q q => ha _ (hb _ ⟨i, j, rfl, rfl, q⟩)
theorem xi_opC {C : Int → Int → Prop} {f : Int → Int → Int} (c : C i j) (ha : XI ta σ H i) (hb : XI tb σ H j) : XI (tOp (rI C fun i j => .int (f i j)) ta tb) σ H (f i j) := fun Q q => ha _ (hb _ ⟨i, j, rfl, rfl, c, q⟩)
theorem xi_is {k : Int} (h : XI te σ H i) (e : i = k) : XI te σ H k := e ▸ h
theorem x_ix {n : Nat} {vs : List L2.V} {v : L2.V} {Q : VK} (hi : σ[n]? = some (some (.ref p))) (hv : H p = some (.lst vs)) (ha : atI vs j = some v) (q : Q v H) : tOp (rIx K) (tVar n) (tC (.int j)) σ H Q := ⟨_, hi, .inl ⟨p, vs, j, v, rfl, rfl, SqL.of hv, ha, q⟩⟩
theorem xi_ix {n : Nat} {vs : List L2.V} (hi : σ[n]? = some (some (.ref p))) (hv : H p = some (.lst vs)) (ha : atI vs j = some (.int i)) : XI (tOp (rIx K) (tVar n) (tC (.int j))) σ H i := fun Q q => x_ix hi hv ha q
theorem xi_int (h : XI te σ H i) : XI (tCB (fun xs H Q => (∃ i, xs = [.int i] ∧ Q (.int i) H) ∨ ∃ k, xs = [.bl k] ∧ Q (.int (if k then 1 else 0)) H) (tCons te tNil)) σ H i := fun Q q => h _ (.inl ⟨i, rfl, q⟩)
theorem x_set {n j' : Nat} {vs : List L2.V} (h : XI te σ H i) (hi : σ[n]? = some (some (.ref p))) (hv : H p = some (.lst vs)) (ha : ixN vs.length j = some j') (k : tz De σ (upd H p (.lst (vs.set j' (.int i))))) : tSeq (tAsg te (gSub (tVar n) (tC (.int j)) rSetL)) tz De σ H :=
  h _ ⟨_, hi, p, vs, j, j', rfl, rfl, hv, ha, k⟩
theorem x_set1 {n j' : Nat} {vs : List L2.V} (h : XI te σ H i) (hi : σ[n]? = some (some (.ref p))) (hv : H p = some (.lst vs)) (ha : ixN vs.length j = some j') (k : De.nx σ (upd H p (.lst (vs.set j' (.int i))))) : tAsg te (gSub (tVar n) (tC (.int j)) rSetL) De σ H :=
  h _ ⟨_, hi, p, vs, j, j', rfl, rfl, hv, ha, k⟩
theorem xt_op {g : Int → Int → Bool} {Q : Bool → Hp → Prop} (ha : XI ta σ H i) (hb : XI tb σ H j) (q : Q (g i j) H) : tTest (tOp (rI0 fun i j => .bl (g i j)) ta tb) σ H Q := ha _ (hb _ ⟨i, j, rfl, rfl, _, rfl, q⟩)
theorem shaped_ints (l : List Int) : SeqAt.shaped (.list (l.map .int)) = true := by
  have hd : ∀ l : List Int, PyData.depthAll (l.map PyData.int) = 0 := by
    intro l
    induction l with
    | nil => rfl
    | cons x l ih =>
      show max (PyData.depth (.int x)) (PyData.depthAll (l.map PyData.int)) = 0
      rw [ih]; rfl
  unfold SeqAt.shaped
  have e1 : PyData.canLay0 (.list (l.map .int)) = true := by
    show PyData.canLayAll0 (l.map .int) = true
    exact canLayAll_ints l
  have e2 : PyData.depth (.list (l.map .int)) = 1 := by
    show PyData.depthAll (l.map .int) + 1 = 1
    rw [hd]
  rw [e1, e2]; rfl
theorem dp_ints {a : Addr} {l : List Int} (h : H a = some (.lst (l.map L2.V.int))) : Dp K H (.ref a) (.list (l.map PyData.int)) :=
  .lst (SqL.of h) (RX.dpall_of (en := D.int) (ep := PyData.int) (fun H v a e => by cases (show v = .int a from e); exact .int a) (DtL.ofInts l))
theorem x_let {n : Nat} (h : XI te σ H i) (k : tz De (σ.set n (some (.int i))) H) : tSeq (tAsg te (gName n)) tz De σ H := h _ k
end
section
variable {P : Program} {w : World} {K : PySem.W.Frag} {mg : Str → Option Value} {base : Heap} {f C : Addr} {fd : FuncData} {M : Md} {σ : L2.St} {B : Hp} {te : TE} {V : Vl} {d : D}
def intIn (lo hi : Int) (d : D) : Prop := ∃ i, d = .int i ∧ lo ≤ i ∧ i < hi
abbrev Sp_draw := SpS (α := Int) (fun _ => 1) (fun m => [.int m]) (fun m => 1 ≤ m ∧ m < 1073741824) (fun m d => intIn 0 m d)
abbrev N_draw : List Str := ["stream", "many", "cell", "digit", "mixed"]
theorem ok_draw (F : Fun K "_law_draw" "_law_draw" s_law_draw f fd) (N : Bn mg) : FnOk P w K mg base CX0 1 f fd ["stream", "many"] Sp_draw := by
  refine F.ok sc_law_draw (SpS.len fun _ => rfl) (fun cdv A outer s H vs Q E hr h => ?_)
  obtain ⟨st, t, n, F0, m, ws, rfl, dj, ne, W, hw, ⟨hm1, hm2⟩, hc, k⟩ := h
  obtain ⟨x, rfl, hx⟩ := one_inv hw
  have ex : x = .int m := hx
  subst ex
  refine ⟨_, pss_cons (ps_asg (pe_op op_add (pe_ix ix_seq (pv 0) pe_int (fun _ _ => rfl)) pe_int) (pg_sub (pv 0) pe_int set_list))
    (pss_cons (ps_while PassesOwn.never (pw_and (pt_cmpR op_eq (pe_ix ix_seq (pv 0) pe_int (fun _ _ => rfl)) pe_int (nomark _)) (pw_and1 (pt_cmpR (op_neD hr.units) (pe_ix ix_seq (pv 0) pe_int (fun _ _ => rfl)) (pe_lst pa_nil) (nomark _)))).pt
      (pss_cons (ps_set (i := 2) sc_law_draw.nd rfl (Or.inl rfl) (pe_callB call_abs (by rfl) N.abs (by decide +kernel) (pa_cons (pe_bm PySem.F.plainAttrs_list PySem.F.slot_list_pop PySem.F.type_list_pop mt_popAt (pe_ix ix_seq (pv 0) pe_int (fun _ _ => rfl)) (pa_cons pe_int pa_nil)) pa_nil)))
      (pss_cons (ps_asg (pe_op op_mod (pe_callTy call_int1 (by rfl) N.int (by decide +kernel) (pa_cons (pe_op op_add (pe_op op_add (pe_op op_mul (pe_ix ix_seq (pv 0) pe_int (fun _ _ => rfl)) pe_int) (pv 2)) pe_int) pa_nil)) pe_int) (pg_sub (pv 0) pe_int set_list))
      (pss_one (ps_asg (pe_ifExp (pt_cmpR op_ge (pv 2) (pe_op op_pow pe_int pe_int) (nomark _)) (pv 2) pe_int) (pg_sub (pv 0) pe_int set_list))))))
    (pss_cons (ps_if (pt_cmpR op_gt (pe_ix ix_seq (pv 0) pe_int (fun _ _ => rfl)) pe_int (nomark _))
      (pss_cons (ps_set (i := 3) sc_law_draw.nd rfl (Or.inl rfl) (pe_op op_mod (pe_callTy call_int1 (by rfl) N.int (by decide +kernel) (pa_cons (pe_ix ix_seq (pv 0) pe_int (fun _ _ => rfl)) pa_nil)) (pv 1)))
      (pss_cons (ps_asg (pe_op op_fdiv (pe_ix ix_seq (pv 0) pe_int (fun _ _ => rfl)) (pv 1)) (pg_sub (pv 0) pe_int set_list))
      (pss_one (ps_ret (pv 3))))) pss_nil)
    (pss_cons (ps_set (i := 4) sc_law_draw.nd rfl (Or.inl rfl) (pe_op op_mod (pe_callTy call_int1 (by rfl) N.int (by decide +kernel) (pa_cons (pe_op op_pow (pe_op op_add (pe_op op_add (pe_ix ix_seq (pv 0) pe_int (fun _ _ => rfl)) (pe_op op_mul pe_int (pe_ix ix_seq (pv 0) pe_int (fun _ _ => rfl)))) pe_int) pe_int) pa_nil)) pe_int))
    (pss_one (ps_ret (pe_op op_mod (pe_op op_mod (pe_callTy call_int1 (by rfl) N.int (by decide +kernel) (pa_cons (pe_op op_pow (pe_op op_add (pe_op op_add (pe_op op_mul (pv 4) pe_int) (pe_op op_mul pe_int (pe_ix ix_seq (pv 0) pe_int (fun _ _ => rfl)))) pe_int) pe_int) pa_nil)) pe_int) (pv 1))))))), ?_⟩
  obtain ⟨cells, a, b, c, hs, ht, ha0, hbn, hc0, hc1⟩ := W.i
  have dj1 : st ∉ F0 := dj.1
  have dj2 : t ∉ F0 := dj.2
  have hc' : n + 1 ≤ 2 ^ 40 := hc
  have p40 : (2 : Nat) ^ 40 = 1099511627776 := by decide
  have mem1 : st ∈ [st, t] := by simp
  have mem2 : t ∈ [st, t] := by simp
  have pos : (0 : Int) < 2147483629 := by decide
  refine x_set (xi_op (xi_ix rfl hs (by rfl)) xi_c) rfl hs (by rfl) ?_
  have R1 : Rn (St st t (n + 1)) F0 H F0 (Hd (St st t n) F0 H) (upd H st (.lst [.ref t, .int a, .int ((b + 1 : Nat) : Int), .int c])) :=
    (Rn.begin W).putS mem1 dj1 ⟨cells, a, b + 1, c, upd_same, by rw [upd_ne (fun z => ne z.symm)]; exact ht, ha0, by omega, hc0, hc1⟩
  refine r_while1 (M := St st t (n + 1)) (De := { nx := _, rt := Q }) (σ := [some (.ref st), some (.int m), none, none, none]) R1 (fun q σ B' H' => ∃ (cells : List Int) (a c : Int) (v2 : Option L2.V), σ = [some (.ref st), some (.int m), v2, none, none] ∧ Rn (St st t (n + 1)) F0 H F0 B' H' ∧ H' st = some (.lst [.ref t, .int a, .int ((b + 1 : Nat) : Int), .int c]) ∧ H' t = some (.lst (cells.map L2.V.int)) ∧ 0 ≤ a ∧ 0 ≤ c ∧ c < 2147483629 ∧ q = cells.length) cells.length
    ⟨cells, a, c, none, rfl, R1, upd_same, by rw [upd_ne (fun z => ne z.symm)]; exact ht, ha0, hc0, hc1, rfl⟩ ?_
  rintro q σ' Bb B1 H1 eb eb1 ⟨cells, a, c, v2, rfl, R, hs, ht, ha0, hc0, hc1, rfl⟩
  have test : ∀ (Qb : Bool → Hp → Prop), (∀ H2 B2, Ex B1 B2 → Rn (St st t (n + 1)) F0 H F0 B2 H2 → H2 st = some (.lst [.ref t, .int a, .int ((b + 1 : Nat) : Int), .int c]) → H2 t = some (.lst (cells.map L2.V.int)) → Qb (decide (a = 0) && !decide (cells = [])) H2) →
      tAnd (tTest (tOp rEq (tOp (rIx K) (tVar 0) (tC (.int 1))) (tC (.int 0)))) (tTest (tOp (rNeD K) (tOp (rIx K) (tVar 0) (tC (.int 0))) (tLst tNil))) [some (.ref st), some (.int m), v2, none, none] H1 Qb := by
    intro Qb kq
    refine x_ix rfl hs (by rfl) ⟨rfl, _, rfl, ?_⟩
    by_cases z : a = 0
    · subst z
      rw [show decide ((L2.V.int 0) = L2.V.int 0) = true by simp]
      refine iteT (x_ix rfl hs (by rfl) ⟨Nat.zero_le _, fun p hp => ?_⟩)
      have g := R.w.new hp (.lst [])
      have R2 := R.step g
      have n1 : st ≠ p := fun y => by rw [← y, hs] at hp; cases hp
      have n2 : t ≠ p := fun y => by rw [← y, ht] at hp; cases hp
      have ht2 : upd H1 p (.lst []) t = some (.lst (cells.map L2.V.int)) := by rw [upd_ne n2]; exact ht
      refine ⟨.list (cells.map .int), .list [], dp_ints ht2, .lst (SqL.of upd_same) .nil, shaped_ints cells, rfl, _, rfl, ?_⟩
      have e : (!PyData.eqv (.list (cells.map .int)) (.list [])) = (decide ((0 : Int) = 0) && !decide (cells = [])) := by
        cases cells <;> rfl
      rw [e]
      exact kq _ _ (R.ext g) R2 (by rw [upd_ne n1]; exact hs) ht2
    · have e : decide (L2.V.int a = L2.V.int 0) = false := by simp [z]
      rw [e]
      refine iteF ?_
      have := kq H1 B1 (Ex.refl _) R hs ht
      rw [show decide (a = 0) = false by simp [z]] at this
      exact this
  refine test _ fun H2 B2 e2 R2 hs2 ht2 => ?_
  cases hb : (decide (a = 0) && !decide (cells = [])) with
  | true =>
    refine iteT ⟨fun σ3 H3 => ∃ m', m' < cells.length ∧ Lp _ Bb m' σ3 H3, fun _ _ h => h, ?_⟩
    rw [Bool.and_eq_true] at hb
    have hcell : cells ≠ [] := by simpa using hb.2
    obtain ⟨z, cs, rfl⟩ : ∃ z cs, cells = z :: cs := by
      cases cells with
      | nil => exact absurd rfl hcell
      | cons z cs => exact ⟨z, cs, rfl⟩
    have hab : ∃ w : Int, (if z < 0 then -z else z) = w ∧ 0 ≤ w := ⟨_, rfl, by split <;> omega⟩
    obtain ⟨w, hw', hw0⟩ := hab
    refine x_ix (v := .ref t) rfl hs2 (by rfl) ⟨.inl ⟨rfl, _, SqL.of ht2⟩, t, _, 0, 0, .int z, rfl, rfl, ht2, by decide, by decide, (ixN_seq (by unfold ixN; rw [if_pos (Int.le_refl 0), if_pos (by simp)]; rfl)).1, rfl, z, rfl, ?_⟩
    rw [hw']
    have R3 : Rn (St st t (n + 1)) F0 H F0 B2 (upd H2 t (.lst (cs.map L2.V.int))) := R2.putS mem2 dj2 ⟨cs, a, b + 1, c, by rw [upd_ne ne]; exact hs2, upd_same, ha0, by omega, hc0, hc1⟩
    have hs3 : upd H2 t (.lst (cs.map L2.V.int)) st = some (.lst [.ref t, .int a, .int ((b + 1 : Nat) : Int), .int c]) := by rw [upd_ne ne]; exact hs2
    show tSeq _ _ _ _ (upd H2 t (.lst (cs.map L2.V.int)))
    have hm3 : 0 ≤ (c * 6151 + w + 7) % 2147483629 ∧ (c * 6151 + w + 7) % 2147483629 < 2147483629 := ⟨Int.emod_nonneg _ (by decide), Int.emod_lt_of_pos _ (by decide)⟩
    refine x_set (xi_opC (C := fun _ j => 0 < j) pos (xi_int (xi_op (xi_op (xi_opC (C := CMul) (.inr ⟨by decide, by decide⟩) (xi_ix rfl hs3 (by rfl)) xi_c) (xi_var rfl)) xi_c)) xi_c) rfl hs3 (by rfl) ?_
    have R4 := R3.putS (m := n + 1) (a := st) (o := .lst [.ref t, .int a, .int ((b + 1 : Nat) : Int), .int ((c * 6151 + w + 7) % 2147483629)]) mem1 dj1 ⟨cs, a, b + 1, _, upd_same, by rw [upd_ne (fun z => ne z.symm), upd_same], ha0, by omega, hm3.1, hm3.2⟩
    have hv : ∃ a' : Int, 0 ≤ a' ∧ ∀ (H' : Hp), XI (tIf (tTest (tOp (rI0 fun i j => .bl (decide (j ≤ i))) (tVar 2) (tOp (rI CPow fun i j => .int (i ^ j.toNat)) (tC (.int 10)) (tC (.int 18))))) (tVar 2) (tC (.int 0))) [some (.ref st), some (.int m), some (.int w), none, none] H' a' := by
      have x18 : ∀ H', XI (tOp (rI CPow fun i j => .int (i ^ j.toNat)) (tC (.int 10)) (tC (.int 18))) [some (.ref st), some (.int m), some (.int w), none, none] H' (10 ^ 18) := fun H' => xi_opC (C := CPow) (f := fun i j => i ^ j.toNat) ⟨by decide, by decide, by decide⟩ xi_c xi_c
      by_cases hz : (10 : Int) ^ 18 ≤ w
      · exact ⟨w, hw0, fun H' Q q => xt_op (g := fun i j => decide (j ≤ i)) (xi_var (i := w) rfl) (x18 H') (by
          rw [decide_eq_true hz]
          exact iteT ⟨_, rfl, q⟩)⟩
      · exact ⟨0, Int.le_refl 0, fun H' Q q => xt_op (g := fun i j => decide (j ≤ i)) (xi_var (i := w) rfl) (x18 H') (by
          rw [decide_eq_false hz]
          exact iteF q)⟩
    obtain ⟨a', ha', hx'⟩ := hv
    refine x_set1 (hx' _) rfl upd_same (by rfl) ?_
    have R5 := R4.putS (m := n + 1) (a := st) (o := .lst [.ref t, .int a', .int ((b + 1 : Nat) : Int), .int ((c * 6151 + w + 7) % 2147483629)]) mem1 dj1 ⟨cs, a', b + 1, _, upd_same, by rw [upd_ne (fun z => ne z.symm), upd_ne (fun z => ne z.symm), upd_same], ha', by omega, hm3.1, hm3.2⟩
    exact ⟨cs.length, by simp, B2, eb1.trans e2, cs, a', _, some (.int w), rfl, R5, upd_same, by rw [upd_ne (fun z => ne z.symm), upd_ne (fun z => ne z.symm), upd_same], ha', hm3.1, hm3.2, rfl⟩
  | false =>
    refine iteF ?_
    have hm1' : 1 ≤ m := hm1
    have hm2' : m < 1073741824 := hm2
    have hb40 : ((b + 1 : Nat) : Int) ≤ 1099511627776 := by omega
    have fin : ∀ (r : Int) (H' : Hp) (B' : Hp), 0 ≤ r → r < m → Rn (St st t (n + 1)) F0 H F0 B' H' → Q (.int r) H' := fun r H' B' h0 h1 R => k (.int r) H' (.int r) ⟨r, rfl, h0, h1⟩ R.go rfl
    refine xt_op (g := fun i j => decide (j < i)) (xi_ix (i := a) rfl hs2 (by rfl)) xi_c ?_
    by_cases hap : (0 : Int) < a
    · rw [decide_eq_true hap]
      refine iteT ?_
      refine x_let (xi_opC (C := fun _ j => 0 < j) (f := fun i j => i % j) (by omega) (xi_int (xi_ix (i := a) rfl hs2 (by rfl))) (xi_var rfl)) ?_
      refine x_set (xi_opC (C := CDiv) (f := fun i j => i / j) ⟨by omega, hm2'⟩ (xi_ix (i := a) rfl hs2 (by rfl)) (xi_var rfl)) rfl hs2 (by rfl) ?_
      have hd : 0 ≤ a / m := Int.ediv_nonneg (by omega) (by omega)
      have R3 := R2.putS (m := n + 1) (a := st) (o := .lst [.ref t, .int (a / m), .int ((b + 1 : Nat) : Int), .int c]) mem1 dj1 ⟨cells, a / m, b + 1, c, upd_same, by rw [upd_ne (fun z => ne z.symm)]; exact ht2, hd, by omega, hc0, hc1⟩
      exact ⟨_, rfl, fin _ _ _ (Int.emod_nonneg _ (by omega)) (Int.emod_lt_of_pos _ (by omega)) R3⟩
    · rw [decide_eq_false hap]
      refine iteF ?_
      show tSeq _ _ _ _ _
      refine x_let (i := (c + 8191 * ((b + 1 : Nat) : Int) + 50021) ^ 5 % 2147483587) (xi_opC (C := fun _ j => 0 < j) (f := fun i j => i % j) (by decide) (xi_int (xi_opC (i := c + 8191 * ((b + 1 : Nat) : Int) + 50021) (j := 5) (C := CPow) (f := fun i j => i ^ j.toNat) ⟨by decide, by decide, by omega⟩ (xi_op (f := fun i j => i + j) (xi_op (f := fun i j => i + j) (xi_ix (i := c) rfl hs2 (by rfl)) (xi_opC (C := CMul) (f := fun i j => i * j) (.inl ⟨by decide, by decide⟩) xi_c (xi_ix (i := ((b + 1 : Nat) : Int)) rfl hs2 (by rfl)))) xi_c) xi_c)) xi_c) ?_
      have hmx : 0 ≤ (c + 8191 * ((b + 1 : Nat) : Int) + 50021) ^ 5 % 2147483587 ∧ (c + 8191 * ((b + 1 : Nat) : Int) + 50021) ^ 5 % 2147483587 < 2147483587 := ⟨Int.emod_nonneg _ (by decide), Int.emod_lt_of_pos _ (by decide)⟩
      revert hmx
      generalize (c + 8191 * ((b + 1 : Nat) : Int) + 50021) ^ 5 % 2147483587 = mx
      intro hmx
      exact xi_opC (C := fun _ j => 0 < j) (f := fun i j => i % j) (by omega) (xi_opC (C := fun _ j => 0 < j) (f := fun i j => i % j) (by decide) (xi_int (xi_opC (i := mx * 40009 + 20011 * ((b + 1 : Nat) : Int) + 31) (j := 3) (C := CPow) (f := fun i j => i ^ j.toNat) ⟨by decide, by decide, by omega⟩ (xi_op (f := fun i j => i + j) (xi_op (f := fun i j => i + j) (xi_opC (C := CMul) (f := fun i j => i * j) (.inr ⟨by decide, by decide⟩) (xi_var (i := mx) rfl) xi_c) (xi_opC (C := CMul) (f := fun i j => i * j) (.inl ⟨by decide, by decide⟩) xi_c (xi_ix (i := ((b + 1 : Nat) : Int)) rfl hs2 (by rfl)))) xi_c) xi_c)) xi_c) (xi_var (i := m) rfl) _ (fin _ _ _ (Int.emod_nonneg _ (by omega)) (Int.emod_lt_of_pos _ (by omega)) R2)
end
end Pg

/-! DLS2: loops and comprehensions that draw. -/
namespace DL
open PySem PySem.Spec PyProof.Rows L2
section
variable {s t : Addr} {n m : Nat} {F0 F G : List Addr} {H0 H H' B B' : Hp} {p : Addr} {d d1 d2 d3 : D} {σ : L2.St} {te ta tb tc tk tv : TE} {tt : TT} {De : Ends} {tz tu : TS} {K : PySem.W.Frag} {g : TG}
theorem wdS (W : Wd (St s t n) F B H) : Wd M0 ((St s t n).S ++ F) B H := ⟨by rw [hd_app]; exact W.e, True.intro, app_tr W⟩
theorem r_forS1 {wi : TI} {ys : List D} (R : Rn (St s t n) F0 H0 F B H) (hi : EvI M0 wi σ B ys) (Iv : Nat → L2.St → Hp → Hp → Prop) (hR : ∀ i σ B H, Iv i σ B H → ∃ n, Rn (St s t n) F0 H0 F B H)
    (h0 : ∀ B' H', Ex B B' → (∀ b ∈ F, H' b = H b) → Rn (St s t n) F0 H0 F B' H' → Iv 0 σ B' H')
    (hs : ∀ i d x σ' Bb B1 H1 B2 H2, Ex B Bb → Ex Bb B1 → ys[i]? = some d → Iv i σ' B1 H1 → Ex B1 B2 → (∀ b ∈ F, H2 b = H1 b) → (∀ n, Rn (St s t n) F0 H0 F B1 H1 → Rn (St s t n) F0 H0 F B2 H2) → Dt B2 d x →
      g x σ' H2 fun σ2 H3 => tu { De with nx := Lp Iv Bb (i + 1), ct := Lp Iv Bb (i + 1), bk := De.nx } σ2 H3)
    (hd : ∀ σ' B' H', Ex B B' → Iv ys.length σ' B' H' → De.nx σ' H') : tFor wi g tu De σ H :=
  hi _ H _ (wdS R.w) fun J H1 g1 wk => by
    obtain ⟨G, Y, w, hG, hY⟩ := wk.ex
    have g1' := go_app R.w g1
    have R1 := R.step g1'
    have e1 := R.ext g1'
    have eb : Hd M0 ((St s t n).S ++ F) H1 = Hd (St s t n) F H1 := hd_app
    refine for_it w (Lp Iv (Hd (St s t n) F H1)) ⟨_, Ex.refl _, h0 _ H1 e1 (fun b hb => g1'.x b hb) R1⟩ ?_ ?_ ?_
    · rintro i σ' H' _ ⟨B', e, q⟩
      obtain ⟨n', R'⟩ := hR _ _ _ _ q
      refine hG _ H' ⟨?_, True.intro, (wdS R'.w).f⟩
      rw [eb]
      exact e.trans (wdS R'.w).e
    · rintro i x σ' H2 H3 hlt ⟨B', e, q⟩ y
      obtain ⟨n', R'⟩ := hR _ _ _ _ q
      have W' : Wd M0 ((St s t n').S ++ F) (Hd M0 ((St s t n).S ++ F) H1) H2 := ⟨by rw [eb]; exact e.trans (wdS R'.w).e, True.intro, (wdS R'.w).f⟩
      obtain ⟨g3, d, hd', dx⟩ := hY _ i H2 x H3 hlt W' y
      have g3' := go_app R'.w g3
      have dx' : Dt (Hd (St s t n') F H3) d x := by
        have := dx
        rw [hd_app (M := St s t n')] at this
        exact this
      refine hs i d x σ' _ B' H2 _ H3 e1 e hd' q (R'.ext g3') (fun b hb => g3'.x b hb) (fun n2 R2 => ?_) dx'
      exact R2.step (go_app R2.w g3)
    · rintro σ' H' ⟨B', e, q⟩
      exact hd σ' B' H' (e1.trans e) q
theorem r_forS {wi : TI} {ys : List D} (R : Rn (St s t n) F0 H0 F B H) (hi : EvI M0 wi σ B ys) (Iv : Nat → L2.St → Hp → Hp → Prop) (hR : ∀ i σ B H, Iv i σ B H → ∃ n, Rn (St s t n) F0 H0 F B H)
    (h0 : ∀ B' H', Ex B B' → (∀ b ∈ F, H' b = H b) → Rn (St s t n) F0 H0 F B' H' → Iv 0 σ B' H')
    (hs : ∀ i d x σ' Bb B1 H1 B2 H2, Ex B Bb → Ex Bb B1 → ys[i]? = some d → Iv i σ' B1 H1 → Ex B1 B2 → (∀ b ∈ F, H2 b = H1 b) → (∀ n, Rn (St s t n) F0 H0 F B1 H1 → Rn (St s t n) F0 H0 F B2 H2) → Dt B2 d x →
      g x σ' H2 fun σ2 H3 => tu { De with nx := Lp Iv Bb (i + 1), ct := Lp Iv Bb (i + 1), bk := tz De } σ2 H3)
    (hd : ∀ σ' B' H', Ex B B' → Iv ys.length σ' B' H' → tz De σ' H') : tSeq (tFor wi g tu) tz De σ H :=
  r_forS1 (De := { De with nx := tz De }) R hi Iv hR h0 hs hd
/-- a walk that starts without a change of the heap -/
def X1 (wi : TI) (σ : L2.St) (H : Hp) (ys : List D) : Prop := ∀ (R : It → Hp → Prop), (∀ J, (∀ B, WkD M0 B J ys) → R J H) → wi σ H R
theorem x_rng {te : TE} {k : Int} (h : ∀ Q : VK, Q (.int k) H → te σ H Q) (h1 : -(2 ^ 62) ≤ k) (h2 : k < 2 ^ 62) : X1 (iRng1 (tCons te tNil)) σ H (rangeD 0 k.toNat) := fun R kk => h _ ⟨k, rfl, h1, h2, kk _ fun B =>
  ⟨_, _, by rw [rangeD_length]; exact walk_range, fun _ _ _ => True.intro, fun F' i H' x H2 hi W' y => by
    obtain ⟨rfl, rfl⟩ := y
    rw [rangeD_length] at hi
    exact ⟨Go.refl W'.i, .int (0 + (i : Nat)), by simp [rangeD, hi], rfl⟩⟩⟩
theorem r_forX {wi : TI} {ys : List D} (R : Rn (St s t n) F0 H0 F B H) (hi : X1 wi σ H ys) (Iv : Nat → L2.St → Hp → Hp → Prop) (hR : ∀ i σ B H, Iv i σ B H → ∃ n, Rn (St s t n) F0 H0 F B H)
    (h0 : Iv 0 σ B H)
    (hs : ∀ i d x σ' B1 H1 B2 H2, Ex B B1 → ys[i]? = some d → Iv i σ' B1 H1 → Ex B1 B2 → (∀ b ∈ F, H2 b = H1 b) → (∀ n, Rn (St s t n) F0 H0 F B1 H1 → Rn (St s t n) F0 H0 F B2 H2) → Dt B2 d x →
      g x σ' H2 fun σ2 H3 => tu { De with nx := Lp Iv B (i + 1), ct := Lp Iv B (i + 1), bk := tz De } σ2 H3)
    (hd : ∀ σ' B' H', Ex B B' → Iv ys.length σ' B' H' → tz De σ' H') : tSeq (tFor wi g tu) tz De σ H :=
  hi _ fun J wk => by
    obtain ⟨G, Y, w, hG, hY⟩ := (wk fun _ => none).ex
    have ex0 : ∀ {X : Hp}, Ex (fun _ => none) X := fun b o h _ => by cases h
    refine for_it (D := { De with nx := tz De }) w (Lp Iv B) ⟨_, Ex.refl _, h0⟩ ?_ ?_ ?_
    · rintro i σ' H' _ ⟨B', e, q⟩
      obtain ⟨n', R'⟩ := hR _ _ _ _ q
      exact hG _ H' ((wdS R'.w).up ex0)
    · rintro i x σ' H2 H3 hlt ⟨B', e, q⟩ y
      obtain ⟨n', R'⟩ := hR _ _ _ _ q
      obtain ⟨g3, d, hd', dx⟩ := hY _ i H2 x H3 hlt ((wdS R'.w).up ex0) y
      have g3' := go_app R'.w g3
      have dx' : Dt (Hd (St s t n') F H3) d x := by
        have := dx
        rw [hd_app (M := St s t n')] at this
        exact this
      exact hs i d x σ' B' H2 _ H3 e hd' q (R'.ext g3') (fun b hb => g3'.x b hb) (fun n2 R2 => R2.step (go_app R2.w g3)) dx'
    · rintro σ' H' ⟨B', e, q⟩
      exact hd σ' B' H' e q
/-- a, b = <new list>, <new list> -/
theorem r_parFF {M : Md} {i j : Nat} {ds es : List D} (R : Rn M F0 H0 F B H) (h1 : EvF M ta σ B ds) (h2 : ∀ B', Ex B B' → EvF M tb σ B' es)
    (k : ∀ kp lp vs ws B' H', Fr H0 kp → Fr H0 lp → lp ≠ kp → Ex B B' → (∀ b ∈ F, H' b = H b) → Rn M F0 H0 (lp :: kp :: F) B' H' → kp ∉ F → kp ∉ M.S → kp ∉ F0 → lp ∉ F → lp ∉ M.S → lp ∉ F0 → H' kp = some (.lst vs) → DtL B' ds vs → H' lp = some (.lst ws) → DtL B' es ws →
      tz De ((σ.set i (some (.ref kp))).set j (some (.ref lp))) H') : tSeq (tPar i j (tCons ta (tCons tb tNil))) tz De σ H :=
  h1 F H _ R.w fun kp vs H1 f g e hd => by
    obtain ⟨Rk, xk, n1, n2⟩ := R.own g f e rfl
    refine h2 _ xk (kp :: F) H1 _ Rk.w fun lp ws H2 f2 g2 e2 hd2 => ?_
    obtain ⟨Rl, xl, m1, m2⟩ := Rk.own g2 f2 e2 rfl
    have ne : lp ≠ kp := fun z => m1 (by rw [z]; exact List.mem_cons_self)
    exact ⟨_, _, rfl, k kp lp vs ws _ H2 (R.fr f) (Rk.fr f2) ne (xk.trans xl) (fun b hb => by rw [g2.x b (List.mem_cons_of_mem _ hb), g.x b hb]) Rl n1 n2 (fun z => n1 (R.s _ z)) (fun z => m1 (List.mem_cons_of_mem _ z)) m2 (fun z => m1 (List.mem_cons_of_mem _ (R.s _ z))) (by rw [g2.x kp List.mem_cons_self]; exact e) (hd.mono xl.le) e2 hd2⟩
/-- a comprehension whose elements draw: c draws at most each -/
theorem r_lcS {wi : TI} {vs : List Nat} {ys : List D} {c : Nat} {P : D → D → Prop} {Q : VK} (R : Rn (St s t n) F0 H0 F B H) (dj : Dj s t F) (hi : EvI M0 wi σ B ys) (hz : ys.length < sizeLine)
    (hg : ∀ i d x F' B' H' (Q : L2.St → Hp → Prop), i < ys.length → d ∈ ys → Ex B B' → Dj s t F' → (∀ b ∈ F, b ∈ F') → Rn (St s t (n + c * i)) F0 H0 F' B' H' → Dt B' d x →
      (∀ σ2, wipe σ2 vs = wipe σ vs → (∀ Q2 : VK, (∀ v B4 H4 d', P d d' → Ex B' B4 → (∀ b ∈ F', H4 b = H' b) → Rn (St s t (n + c * (i + 1))) F0 H0 F' B4 H4 → Dt B4 d' v → Q2 v H4) → te σ2 H' Q2) → Q σ2 H') → g x (wipe σ vs) H' Q)
    (k : ∀ p ws ds B' H', Fr H0 p → Ex B B' → (∀ b ∈ F, H' b = H b) → Rn (St s t (n + c * ys.length)) F0 H0 (p :: F) B' H' → p ∉ F → p ≠ s → p ≠ t → p ∉ F0 → H' p = some (.lst ws) → DtL B' ds ws → ds.length = ys.length → (∀ (j : Nat) a b, ys[j]? = some a → ds[j]? = some b → P a b) → Q (.ref p) H') : tLc wi g tYes te vs σ H Q :=
  hi _ H _ (wdS R.w) fun J H1 g1 wk => by
    obtain ⟨G, Y, w, hG, hY⟩ := wk.ex
    have g1' := go_app R.w g1
    have R1 := R.step g1'
    have e1 := R.ext g1'
    have eb : Hd M0 ((St s t n).S ++ F) H1 = Hd (St s t n) F H1 := hd_app
    intro Dl hD
    have nD := R1.w.nS (Fr.of hD)
    have nDs : Dl ≠ s := fun z => nD.1 (by rw [z]; simp [St])
    have nDt : Dl ≠ t := fun z => nD.1 (by rw [z]; simp [St])
    have nD0 : Dl ∉ F0 := fun z => nD.2 (R.s _ z)
    have dj' : Dj s t (Dl :: F) := ⟨fun z => (List.mem_cons.mp z).elim (fun z => nDs z.symm) dj.1, fun z => (List.mem_cons.mp z).elim (fun z => nDt z.symm) dj.2⟩
    refine lc_it w (fun i H' => ∃ B' acc ds, Ex (Hd (St s t n) F H1) B' ∧ (∀ b ∈ F, H' b = H1 b) ∧ Rn (St s t (n + c * i)) F0 H0 (Dl :: F) B' H' ∧ H' Dl = some (.lst acc) ∧ DtL B' ds acc ∧ ds.length = i ∧ ∀ (j : Nat) a b, ys[j]? = some a → ds[j]? = some b → P a b) ?_ ?_ ?_ ?_
    · obtain ⟨R2, x2, _, _⟩ := R1.own (R1.w.new hD (.lst [])) (Fr.of hD) upd_same rfl
      exact ⟨_, [], [], x2, fun b hb => upd_ne (fun z => nD.2 (by rw [← z]; exact hb)), R2, upd_same, DtL.nil, rfl, fun j a b _ h => by simp at h⟩
    · rintro i H' _ ⟨B', acc, ds, e, _, R', _⟩
      refine hG _ H' ⟨?_, True.intro, (wdS R'.w).f⟩
      rw [eb]
      exact e.trans (wdS R'.w).e
    · rintro i x H2 H3 hlt ⟨B', acc, ds, e, hF, R', hacc, hds, hlen, hP⟩ y
      have W' : Wd M0 ((St s t (n + c * i)).S ++ (Dl :: F)) (Hd M0 ((St s t n).S ++ F) H1) H2 := ⟨by rw [eb]; exact e.trans (wdS R'.w).e, True.intro, (wdS R'.w).f⟩
      obtain ⟨g3, d, hd', dx⟩ := hY _ i H2 x H3 hlt W' y
      have g3' := go_app R'.w g3
      have R3 := R'.step g3'
      have dx' : Dt (Hd (St s t (n + c * i)) (Dl :: F) H3) d x := by
        have := dx
        rw [hd_app (M := St s t (n + c * i))] at this
        exact this
      have ex3 := R'.ext g3'
      refine hg i d x (Dl :: F) _ H3 _ hlt (List.mem_of_getElem? hd') ((e1.trans e).trans ex3) dj' (fun b hb => List.mem_cons_of_mem _ hb) R3 dx' fun σ2 hw ht => ⟨hw, ?_⟩
      dsimp only [tYes]
      rw [if_pos rfl]
      refine ht _ fun v B4 H4 d' pd e4 k4 R4 dv => ?_
      have hacc4 : H4 Dl = some (.lst acc) := by rw [k4 Dl List.mem_cons_self, g3'.x Dl List.mem_cons_self]; exact hacc
      refine ⟨acc, hacc4, by rw [hds.length, hlen]; omega, B4, acc ++ [v], ds ++ [d'], ((e.trans ex3).trans e4), fun b hb => ?_, R4.put List.mem_cons_self nD.1 nD0 rfl, upd_same, DtL.append ((hds.mono ex3.le).mono e4.le) (DtL.cons dv DtL.nil), by rw [List.length_append, hlen]; rfl, fun j a b ha hb => ?_⟩
      · rw [upd_ne (fun z => nD.2 (by rw [← z]; exact hb)), k4 b (List.mem_cons_of_mem _ hb), g3'.x b (List.mem_cons_of_mem _ hb), hF b hb]
      · by_cases z : j < ds.length
        · rw [List.getElem?_append_left z] at hb
          exact hP j a b ha hb
        · rw [List.getElem?_append_right (by omega)] at hb
          have hj : j = i := by
            have := (List.getElem?_eq_some_iff.mp hb).1
            simp at this
            omega
          subst hj
          rw [hd'] at ha
          cases ha
          rw [hlen] at hb
          simp at hb
          subst hb
          exact pd
    · rintro H' ⟨B', acc, ds, e, hF, R', hacc, hds, hlen, hP⟩
      exact k Dl acc ds B' H' (R1.fr (Fr.of hD)) (e1.trans e) (fun b hb => by rw [hF b hb, g1'.x b hb]) R' nD.2 nDs nDt nD0 hacc hds hlen hP
end
end DL

namespace Pg
open PySem PySem.Spec PyProof.Rows L2 DL RX
section
variable {P : Program} {w : World} {K : PySem.W.Frag} {mg : Str → Option Value} {base : Heap} {f C : Addr} {fd : FuncData} {M : Md} {σ : L2.St} {B : Hp} {te : TE} {V : Vl} {d : D}
/-! ### _law_pick -/
def itD : D → Option (List D)
  | .lst l => some l
  | .tup l => some l
  | .str z => some (signsD z)
  | _ => none
structure Pk where
  th : D
  l : List D
abbrev Sp_pick := SpS (α := Pk) (fun _ => 1) (fun p => [p.th]) (fun p => itD p.th = some p.l ∧ 1 ≤ p.l.length ∧ p.l.length ≤ 1000) (fun p d => d ∈ p.l)
abbrev rLenX (K : PySem.W.Frag) : List L2.V → Hp → VK → Prop := fun xs H Q => (∃ p ys, xs = [.ref p] ∧ (SqL K H p ys ∨ SqT K H p ys) ∧ Q (.int ys.length) H) ∨ ∃ z, xs = [.str z] ∧ z.length ≤ sizeLine ∧ Q (.int z.length) H
theorem rc_lenX {l : List D} (h : itD d = some l) (hz : l.length ≤ 1000) : RC M (rLenX K) [d] (.int (l.length : Nat)) := fun F B H vs Q W e k => by
  have h1000 : (1000 : Nat) ≤ sizeLine := by decide
  cases d with
  | lst l' => cases h; exact .inl (rc_len (d := .lst _) rfl F B H vs Q W e k)
  | tup l' => cases h; exact .inl (rc_len (d := .tup _) rfl F B H vs Q W e k)
  | str z =>
    cases h
    have hl : (signsD z).length = z.length := by unfold signsD; rw [List.length_map, str_len]
    rw [hl] at hz k
    exact .inr (rc_lenS (by omega) F B H vs Q W e k)
  | _ => cases h
theorem rv_ixX {l : List D} {i : Int} {e : D} (h : itD d = some l) (hz : l.length ≤ 1000) (ha : atI l i = some e) : RV M (rIx K) d (.int i) e := by
  have h1000 : (1000 : Nat) ≤ sizeLine := by decide
  cases d with
  | lst l' => cases h; exact rv_ix rfl ha
  | tup l' => cases h; exact rv_ix rfl ha
  | str z =>
    cases h
    have hl : (signsD z).length = z.length := by unfold signsD; rw [List.length_map, str_len]
    rw [hl] at hz
    have : ∃ c, atI z.cps.toList i = some c ∧ e = .str ⟨#[c]⟩ := by
      unfold atI at ha ⊢
      unfold signsD at ha
      rw [List.length_map] at ha
      cases q : ixN z.cps.toList.length i with
      | none => rw [q] at ha; cases ha
      | some j =>
        rw [q] at ha
        have ha : (z.cps.toList.map fun c => D.str ⟨#[c]⟩)[j]? = some e := ha
        rw [List.getElem?_map] at ha
        obtain ⟨c, hc, e'⟩ := Option.map_eq_some_iff.mp ha
        exact ⟨c, hc, e'.symm⟩
    obtain ⟨c, hc, rfl⟩ := this
    exact rv_ixStr (by omega) hc
  | _ => cases h
theorem atI_in {α : Type} {l : List α} {i : Int} (h0 : 0 ≤ i) (h1 : i < (l.length : Nat)) : ∃ x, atI l i = some x ∧ x ∈ l := by
  unfold atI ixN
  rw [if_pos h0, if_pos h1]
  have hlt : i.toNat < l.length := by omega
  exact ⟨l[i.toNat], List.getElem?_eq_getElem hlt, List.getElem_mem hlt⟩
theorem ok_pick {a1 : Addr} (F : Fun K "_law_pick" "_law_pick" s_law_pick f fd) (N : Bn mg) (g1 : mg "_law_draw" = some (.ref a1)) (O1 : OkF P w K mg base 1 a1 ["stream", "many"] Sp_draw) : FnOk P w K mg base CX0 2 f fd ["stream", "things"] Sp_pick := by
  refine F.ok sc_law_pick (SpS.len fun _ => rfl) (fun cdv A outer s H vs Q E hr h => ?_)
  obtain ⟨st, t, n, F0, ⟨th, l⟩, ws, rfl, dj, ne, W, hw, ⟨hi, hl1, hl2⟩, hc, k⟩ := h
  obtain ⟨x, rfl, hx⟩ := one_inv hw
  refine ⟨_, pss_one (ps_ret (pe_ix ix_seq (pv 1) (pe_c O1 hr g1 (pa_cons (pv 0) (pa_cons (pe_callB (CallR.or call_len_seq call_len_str) (by rfl) N.len PySem.boot_len (pa_cons (pv 1) pa_nil)) pa_nil))) (fun _ _ => rfl))), ?_⟩
  have hi : itD th = some l := hi
  have hl1 : 1 ≤ l.length := hl1
  have hl2 : l.length ≤ 1000 := hl2
  refine ⟨_, rfl, r_callS (l.length : Int) (Rn.begin W) dj ne rfl (ea_cons (ev_cb (ea_cons (ev_var rfl hx) ea_nil) (rc_lenX hi hl2)) ea_nil) ⟨by omega, by omega⟩ hc fun v B1 H1 d ⟨i, ei, h0, h1⟩ e1 k1 R1 dv => ?_⟩
  subst ei
  have ev : v = .int i := dv
  subst ev
  obtain ⟨e, he, hm⟩ := atI_in h0 h1
  refine rv_ixX hi hl2 he F0 _ H1 x (.int i) _ R1.w (((hx.mono e1.le)).mono R1.w.e.le) rfl fun v2 H2 g2 d2 => ?_
  exact k v2 H2 e hm ((R1.step g2).go) d2
/-! ### _law_mixed -/
structure Mx where
  th : D
  l : List D
abbrev Sp_mixed := SpS (α := Mx) (fun p => p.l.length) (fun p => [p.th]) (fun p => sq p.th = some p.l ∧ p.l.length ≤ 1000) (fun p d => ∃ l', d = .lst l' ∧ l'.Perm p.l)
abbrev N_mixed : List Str := ["stream", "things", "left", "found", "k"]
theorem perm_erase {α : Type} {l : List α} {i : Nat} {a : α} (h : l[i]? = some a) : (a :: l.eraseIdx i).Perm l := by
  induction l generalizing i with
  | nil => simp at h
  | cons b l ih =>
    cases i with
    | zero => simp at h; subst h; simp
    | succ i =>
      rw [List.getElem?_cons_succ] at h
      rw [List.eraseIdx_cons_succ]
      exact (List.Perm.swap b a _).trans ((ih h).cons b)
theorem dtl_erase {H : Hp} : ∀ {l : List D} {vs : List L2.V} (i : Nat), DtL H l vs → DtL H (l.eraseIdx i) (vs.eraseIdx i)
  | [], vs, i, h => by rw [DtL.nil_inv h]; exact DtL.nil
  | d :: l, vs, 0, h => by
    obtain ⟨v, r, rfl, p, q⟩ := DtL.cons_inv h
    exact q
  | d :: l, vs, i + 1, h => by
    obtain ⟨v, r, rfl, p, q⟩ := DtL.cons_inv h
    exact DtL.cons p (dtl_erase i q)
theorem ok_mixed {a1 : Addr} (F : Fun K "_law_mixed" "_law_mixed" s_law_mixed f fd) (N : Bn mg) (g1 : mg "_law_draw" = some (.ref a1)) (O1 : OkF P w K mg base 1 a1 ["stream", "many"] Sp_draw) : FnOk P w K mg base CX0 2 f fd ["stream", "things"] Sp_mixed := by
  refine F.ok sc_law_mixed (SpS.len fun _ => rfl) (fun cdv A outer s H vs Q E hr h => ?_)
  obtain ⟨st, t, n, F0, ⟨th, l⟩, ws, rfl, dj, ne, W, hw, ⟨hs, hl⟩, hc, k⟩ := h
  obtain ⟨x, rfl, hx⟩ := one_inv hw
  have hs : sq th = some l := hs
  have hl : l.length ≤ 1000 := hl
  have h1000 : (1001 : Nat) ≤ sizeLine := by decide
  refine ⟨_, pss_cons (ps_par (i := 2) (j := 3) (by rfl) sc_law_mixed.nd rfl rfl (by decide) rfl rfl (pa_cons (pe_callTy call_list_of (by rfl) N.list (by decide +kernel) (pa_cons (pv 1) pa_nil)) (pa_cons (pe_lst pa_nil) pa_nil)) (by rfl))
    (pss_cons (ps_for PassesOwn.never (by rfl) (pi_range1 (by rfl) N.range (pa_cons (pe_callB call_len_seq (by rfl) N.len PySem.boot_len (pa_cons (pv 2) pa_nil)) pa_nil)) (pg_name (i := 4) sc_law_mixed.nd rfl (Or.inl rfl))
      (pss_one (ps_expr (pe_bm PySem.F.plainAttrs_list PySem.F.slot_list_append PySem.F.type_list_append mt_append (pv 3) (pa_cons (pe_bm PySem.F.plainAttrs_list PySem.F.slot_list_pop PySem.F.type_list_pop mt_popAt (pv 2) (pa_cons (pe_c O1 hr g1 (pa_cons (pv 0) (pa_cons (pe_callB call_len_seq (by rfl) N.len PySem.boot_len (pa_cons (pv 2) pa_nil)) pa_nil))) pa_nil)) pa_nil)))))
    (pss_one (ps_ret (pv 3)))), ?_⟩
  refine r_parFF (Rn.begin W) (ef_cb (ea_cons (ev_var rfl hx) ea_nil) (rcf_list hs)) (fun B' e => ef_lst ea_nil (Nat.zero_le _)) fun lp fp vs ws B1 H1 fl ff hne e1 k1 R1 l1 l2 l3 f1 f2 f3 hlv hld hfv hfd => ?_
  have ews : ws = [] := DtL.nil_inv hfd
  subst ews
  have hst1 : lp ≠ st := fun z => l2 (by rw [z]; simp [DL.St])
  have hst2 : lp ≠ t := fun z => l2 (by rw [z]; simp [DL.St])
  have hst3 : fp ≠ st := fun z => f2 (by rw [z]; simp [DL.St])
  have hst4 : fp ≠ t := fun z => f2 (by rw [z]; simp [DL.St])
  have dj2 : Dj st t (fp :: lp :: F0) := ⟨fun z => by
    rcases List.mem_cons.mp z with z | z
    · exact hst3 z.symm
    · rcases List.mem_cons.mp z with z | z
      · exact hst1 z.symm
      · exact dj.1 z, fun z => by
    rcases List.mem_cons.mp z with z | z
    · exact hst4 z.symm
    · rcases List.mem_cons.mp z with z | z
      · exact hst2 z.symm
      · exact dj.2 z⟩
  have hcost : n + l.length ≤ 2 ^ 40 := hc
  have hp62 : ((vs.length : Nat) : Int) < 2 ^ 62 := by
    rw [hld.length, show (2 : Int) ^ 62 = 4611686018427387904 by decide]
    omega
  have hm62 : -(2 ^ 62 : Int) ≤ ((vs.length : Nat) : Int) := by
    rw [show (2 : Int) ^ 62 = 4611686018427387904 by decide]
    omega
  refine r_forX R1 (x_rng (k := (vs.length : Nat)) (fun Q q => ⟨_, rfl, lp, vs, rfl, .inl (SqL.of hlv), q⟩) hm62 hp62) (fun i σ B' H' => ∃ (L Fd : List D) (lv fv : List L2.V) (v4 : Option L2.V), σ = [some (.ref st), some x, some (.ref lp), some (.ref fp), v4] ∧ Rn (DL.St st t (n + i)) F0 H (fp :: lp :: F0) B' H' ∧ H' lp = some (.lst lv) ∧ DtL B' L lv ∧ H' fp = some (.lst fv) ∧ DtL B' Fd fv ∧ L.length = l.length - i ∧ i ≤ l.length ∧ (Fd ++ L).Perm l)
    (fun i σ B' H' ⟨_, _, _, _, _, _, R, _⟩ => ⟨_, R⟩) ⟨l, [], vs, [], none, rfl, R1, hlv, hld, hfv, DtL.nil, rfl, Nat.zero_le _, by simp⟩ ?_ ?_
  · rintro i d v σ' B2 H2 B3 H3 e2 hd' ⟨L, Fd, lv, fv, v4, rfl, R2, hL, dL, hF, dF, hll, hil, hperm⟩ e3 k3 R3' dv
    have R3 := R3' _ R2
    have hi' : i < l.length := by
      have := (List.getElem?_eq_some_iff.mp hd').1
      rw [rangeD_length, hld.length] at this
      omega
    have hL3 : H3 lp = some (.lst lv) := by rw [k3 lp (by simp)]; exact hL
    have hF3 : H3 fp = some (.lst fv) := by rw [k3 fp (by simp)]; exact hF
    have hlv2 : lv.length = L.length := dL.length
    refine ⟨_, rfl, .inl ⟨rfl, fv, SqL.of hF3⟩, _, rfl, .inl ⟨rfl, lv, SqL.of hL3⟩, _, rfl, ?_⟩
    refine ⟨_, rfl, lp, lv, rfl, .inl (SqL.of hL3), ?_⟩
    have pre : (1 : Int) ≤ (lv.length : Nat) ∧ ((lv.length : Nat) : Int) < 1073741824 := by omega
    refine ⟨st, t, n + i, fp :: lp :: F0, ((lv.length : Nat) : Int), [.int (lv.length : Nat)], rfl, dj2, ne, R3.w.now, DtL.cons rfl DtL.nil, pre, by show n + i + 1 ≤ _; omega, fun v5 H5 d5 ⟨j, ej, hj0, hj1⟩ g5 dv5 => ?_⟩
    subst ej
    have ev5 : v5 = .int j := dv5
    subst ev5
    obtain ⟨R5, e5⟩ := R3.stepS g5
    have hL5 : H5 lp = some (.lst lv) := by rw [g5.x lp (by simp)]; exact hL3
    have hF5 : H5 fp = some (.lst fv) := by rw [g5.x fp (by simp)]; exact hF3
    have hjn : j.toNat < lv.length := by omega
    have hix : ixN lv.length j = some j.toNat := by unfold ixN; rw [if_pos hj0, if_pos hj1]
    have h63 : (2 : Int) ^ 63 = 9223372036854775808 := by decide
    refine ⟨lp, lv, j, j.toNat, lv[j.toNat], rfl, rfl, hL5, by omega, by omega, (ixN_seq hix).1, List.getElem?_eq_getElem hjn, ?_⟩
    have R6 : Rn (DL.St st t (n + i + 1)) F0 H (fp :: lp :: F0) _ (upd H5 lp (.lst (lv.eraseIdx j.toNat))) := R5.put (by simp) l2 l3 rfl
    have ne2 : fp ≠ lp := hne
    refine ⟨fp, fv, lv[j.toNat], rfl, rfl, by rw [upd_ne ne2]; exact hF5, by have := dF.length; have h2 := hperm.length_eq; rw [List.length_append] at h2; omega, ?_⟩
    obtain ⟨dj', hdj, ddj⟩ := dL.get (List.getElem?_eq_getElem hjn)
    have R7 := R6.put (p := fp) (o := .lst (fv ++ [lv[j.toNat]])) (by simp) f2 f3 rfl
    refine ⟨_, (e2.trans e3).trans e5, L.eraseIdx j.toNat, Fd ++ [dj'], lv.eraseIdx j.toNat, fv ++ [lv[j.toNat]], _, rfl, R7, by rw [upd_ne (fun z => ne2 z.symm), upd_same], ?_, upd_same, ?_, ?_, by omega, ?_⟩
    · exact dtl_erase _ ((dL.mono e3.le).mono e5.le)
    · exact DtL.append ((dF.mono e3.le).mono e5.le) (DtL.cons ((ddj.mono e3.le).mono e5.le) DtL.nil)
    · rw [List.length_eraseIdx_of_lt (by omega)]; omega
    · rw [List.append_assoc]
      exact ((perm_erase hdj).append_left Fd).trans hperm
  · rintro σ' B2 H2 e2 ⟨L, Fd, lv, fv, v4, rfl, R2, hL, dL, hF, dF, hll, hil, hperm⟩
    rw [rangeD_length, hld.length] at hll hil R2
    have hL0 : L = [] := List.length_eq_zero_iff.mp (by omega)
    subst hL0
    rw [List.append_nil] at hperm
    obtain ⟨R8, e8⟩ := R2.see (G := F0) (fun b hb => by simp [hb]) (fun b hb => hb)
    have en : n + ((l.length : Int).toNat) = n + l.length := by simp
    have dres : Dt (Hd (DL.St st t (n + ((l.length : Nat) : Int).toNat)) F0 H2) (.lst Fd) (.ref fp) := lst_mk (hd_some.mpr ⟨⟨f2, f3⟩, hF⟩) (dF.mono e8.le)
    have R9 : Rn (DL.St st t (n + l.length)) F0 H F0 _ H2 := R8.upS (by simp)
    exact ⟨_, rfl, k _ H2 (.lst Fd) ⟨Fd, rfl, hperm⟩ R9.go dres⟩
end
end Pg

namespace Pg
open PySem PySem.Spec PyProof.Rows L2 DL RX
section
variable {P : Program} {w : World} {K : PySem.W.Frag} {mg : Str → Option Value} {base : Heap} {f C : Addr} {fd : FuncData} {M : Md} {σ : L2.St} {B : Hp} {te : TE} {V : Vl} {d : D}
theorem r_asgX {i : Nat} {De : Ends} {tz : TS} {H : Hp} (h : te σ H fun v H' => tz De (σ.set i (some v)) H') : tSeq (tAsg te (gName i)) tz De σ H := h
/-! ### _law_loose -/
def Deep (C : Addr) : Nat → D → Prop
  | 0, x => sq x = none ∧ okV C x
  | k + 1, x => okV C x ∧ ∀ l, sq x = some l → l.length ≤ 100 ∧ ∀ a ∈ l, Deep C k a
def Loos : Nat → D → D → Prop
  | 0, x, y => y = x
  | k + 1, x, y => match sq x with
    | none => y = x
    | some l => ∃ l', sq y = some l' ∧ l'.length = l.length ∧ ∀ (i : Nat) a b, l[i]? = some a → l'[i]? = some b → Loos k a b
def looseC : Nat → Nat
  | 0 => 0
  | k + 1 => looseC k * 100 + 1
abbrev Sp_loose (C : Addr) (k : Nat) := SpS (α := D) (fun _ => looseC k) (fun x => [x]) (fun x => Deep C k x) (fun x y => Loos k x y)
theorem deep_ok {k : Nat} {x : D} (h : Deep C k x) : okV C x := by cases k <;> first | exact h.2 | exact h.1
theorem isList_sq (d : D) : isListD d = (sq d).isSome := by cases d <;> rfl
abbrev N_loose : List Str := ["stream", "thing", "some", "one"]
theorem ok_loose0 (F : Fun K "_law_loose" "_law_loose" s_law_loose f fd) (N : Bn mg) (v : VF K C) : FnOk P w K mg base CX0 2 f fd ["stream", "thing"] (Sp_loose C 0) := by
  refine F.ok sc_law_loose (SpS.len fun _ => rfl) (fun cdv A outer s H vs Q E hr h => ?_)
  obtain ⟨st, t, n, F0, th, ws, rfl, dj, ne, W, hw, ⟨hs, ho⟩, hc, k⟩ := h
  obtain ⟨x, rfl, hx⟩ := one_inv hw
  refine ⟨_, pss_cons (ps_if (pt_val (pe_callB call_isiT (by rfl) N.isinstance (by decide +kernel) (pa_cons (pv 1) (pa_cons (pe_tup (pa_cons (pe_bltn (v := .ty "list") (by rfl) N.list (by decide +kernel) rfl) (pa_cons (pe_bltn (v := .ty "tuple") (by rfl) N.tuple (by decide +kernel) rfl) pa_nil))) pa_nil)))) pss_never pss_nil) (pss_one (ps_ret (pv 1))), ?_⟩
  refine r_if (b := isListD th) (Rn.begin W) (et_val (ev_list v ho (ev_var rfl hx))) (fun q => by rw [isList_sq, hs] at q; cases q) (fun _ B1 H1 e1 g1 R1 => ?_)
  refine r_next ?_
  dsimp only
  exact r_ret R1 (ev_var rfl (hx.mono e1.le)) fun v H2 g2 d2 => k v H2 th rfl g2 d2
theorem ok_loose {a1 : Addr} (F : Fun K "_law_loose" "_law_loose" s_law_loose f fd) (N : Bn mg) (v : VF K C) (g1 : mg "_law_draw" = some (.ref a1)) (O1 : OkF P w K mg base 1 a1 ["stream", "many"] Sp_draw) (g2 : mg "_law_loose" = some (.ref f)) (b2 : Binds K fd ["stream", "thing"] []) (kp : PySem.W.keepIn K (.ref f) = true) :
    ∀ k, looseC k ≤ 2 ^ 30 → FnOk P w K mg base CX0 (k + 2) f fd ["stream", "thing"] (Sp_loose C k)
  | 0, _ => ok_loose0 F N v
  | k + 1, hck => by
    have hck' : looseC k * 100 + 1 ≤ 2 ^ 30 := hck
    have O2 : OkF P w K mg base (k + 2) f ["stream", "thing"] (Sp_loose C k) := ⟨⟨fd, ok_loose F N v g1 O1 g2 b2 kp k (by omega), b2⟩, kp⟩
    refine F.ok sc_law_loose (SpS.len fun _ => rfl) (fun cdv A outer s H vs Q E hr h => ?_)
    obtain ⟨st, t, n, F0, th, ws, rfl, dj, ne, W, hw, ⟨ho, hdeep⟩, hc, kk⟩ := h
    obtain ⟨x, rfl, hx⟩ := one_inv hw
    refine ⟨_, pss_cons (ps_if (pt_val (pe_callB call_isiT (by rfl) N.isinstance (by decide +kernel) (pa_cons (pv 1) (pa_cons (pe_tup (pa_cons (pe_bltn (v := .ty "list") (by rfl) N.list (by decide +kernel) rfl) (pa_cons (pe_bltn (v := .ty "tuple") (by rfl) N.tuple (by decide +kernel) rfl) pa_nil))) pa_nil))))
      (pss_cons (ps_setLc (i := 2) (own := [("one", 3)]) (g := gName 3) (by rfl) sc_law_loose.nd rfl rfl (sw_true rfl rfl rfl (by decide +kernel)) (pi_seq (pv 1)) (blkOk_by (own := [("one", 3)]) (N := N_loose) (sc := defScope s_law_loose) (by decide +kernel)) (fun _ _ _ _ _ => pg_name (i := 3) sc_law_loose.nd rfl (Or.inl rfl)) (fun _ _ _ _ _ => pts_nil)
          (fun _ _ _ _ _ => pe_c O2 hr g2 (pa_cons (pv 0) (pa_cons (pv 3) pa_nil))))
      (pss_one (ps_ret (pe_ifExp (pt_cmpR op_eq (pe_c O1 (hr.mono (by omega)) g1 (pa_cons (pv 0) (pa_cons pe_int pa_nil))) pe_int (nomark _)) (pv 2) (pe_callTy call_tuple_of (by rfl) N.tuple (by decide +kernel) (pa_cons (pv 2) pa_nil)))))) pss_nil) (pss_one (ps_ret (pv 1))), ?_⟩
    have hc' : n + (looseC k * 100 + 1) ≤ 2 ^ 40 := hc
    refine r_if (b := isListD th) (Rn.begin W) (et_val (ev_list v ho (ev_var rfl hx))) (fun q B1 H1 e1 g1' R1 => ?_) (fun q B1 H1 e1 g1' R1 => ?_)
    · obtain ⟨l, hs, _⟩ := sq_of_list q
      obtain ⟨hl, hd⟩ := hdeep l hs
      have hsz : (101 : Nat) ≤ sizeLine := by decide
      have hx1 := hx.mono e1.le
      refine r_asgX ?_
      refine r_lcS (σ := [some (.ref st), some x, none, none]) (c := looseC k) (P := Loos k) R1 dj (ei_seq hs (ev_var (i := 1) rfl hx1)) (by omega) (fun i d y F' B' H' Qg hi hdm e dj' hsub R' dv kg => ?_) fun p ws ds B2 H2 fp e2 k2 R2 n1 n2 n3 n4 hp hds hlen hP => ?_
      · refine kg _ rfl fun Q2 k3 => ?_
        refine r_callS d R' dj' ne rfl (ea_cons (ev_var rfl dv) ea_nil) (hd d hdm) ?_ fun v B4 H4 d' pd e4 k4 R4 dv4 => ?_
        · have : looseC k * (i + 1) ≤ looseC k * 100 := Nat.mul_le_mul_left _ (by omega)
          rw [Nat.mul_add, Nat.mul_one] at this
          show n + looseC k * i + looseC k ≤ _
          omega
        · refine k3 v B4 H4 d' pd e4 k4 (Rn.upS R4 ?_) dv4
          show n + looseC k * i + looseC k ≤ _
          rw [Nat.mul_add]
          omega
      · have hst2 : p ≠ st := n2
        have hn2 : n + looseC k * l.length ≤ n + looseC k * 100 := Nat.add_le_add_left (Nat.mul_le_mul_left _ (by omega)) _
        obtain ⟨R3, e3⟩ := R2.see (G := F0) (fun b hb => List.mem_cons_of_mem _ hb) (fun b hb => hb)
        have hpv : Hd (DL.St st t (n + looseC k * l.length)) F0 H2 p = some (.lst ws) := hd_some.mpr ⟨⟨fun z => by
          rcases List.mem_cons.mp z with z | z
          · exact n2 z
          · rw [List.mem_singleton] at z; exact n3 z, n4⟩, hp⟩
        have dp : Dt (Hd (DL.St st t (n + looseC k * l.length)) F0 H2) (.lst ds) (.ref p) := lst_mk hpv (hds.mono e3.le)
        have hcc : n + looseC k * l.length + 1 ≤ 2 ^ 40 := by omega
        have loos : ∀ y, sq y = some ds → Loos (k + 1) th y := fun y hy => by
          unfold Loos
          rw [hs]
          exact ⟨ds, hy, hlen, hP⟩
        refine r_callS (2 : Int) R3 dj ne rfl (ea_cons ev_int ea_nil) ⟨by omega, by omega⟩ hcc fun v4 B4 H4 d4 ⟨i4, ei4, h40, h41⟩ e4 k4 R4 dv4 => ?_
        subst ei4
        have ev4 : v4 = .int i4 := dv4
        subst ev4
        have dp4 := dp.mono e4.le
        refine ⟨rfl, _, rfl, ?_⟩
        have R5 : Rn (DL.St st t (n + (looseC k * 100 + 1))) F0 H F0 B4 H4 := R4.upS (by show n + looseC k * l.length + 1 ≤ _; omega)
        by_cases z : i4 = 0
        · subst z
          rw [show decide (L2.V.int 0 = L2.V.int 0) = true by simp]
          exact iteT ⟨_, rfl, kk _ H4 (.lst ds) (loos _ rfl) R5.go (R5.dt dp4)⟩
        · rw [show decide (L2.V.int i4 = L2.V.int 0) = false by simp [z]]
          refine iteF ⟨_, rfl, ?_⟩
          obtain ⟨a, vs, ea, ha, hvs⟩ := lst_inv (dp4.mono R5.w.e.le)
          cases ea
          refine ⟨p, vs, rfl, .inl ⟨SqL.of (hdL ha), fun q hq => ?_⟩⟩
          have g6 := R5.w.new hq (.tup vs)
          have R6 := R5.step g6
          exact kk _ _ (.tup ds) (loos _ rfl) R6.go (tup_mk (hd_some.mpr ⟨R5.w.nS (Fr.of hq), upd_same⟩) (hvs.mono g6.le))
    · refine r_next ?_
      dsimp only
      have hs : sq th = none := by rw [isList_sq] at q; cases h : sq th <;> simp_all
      have lth : Loos (k + 1) th th := by unfold Loos; rw [hs]
      refine r_ret (R1.upS (m := n + (looseC k * 100 + 1)) (by omega)) (ev_var rfl (hx.mono e1.le)) fun v H2 g2 d2 => kk v H2 th lth g2 d2
end
end Pg

namespace Pg
open PySem PySem.Spec PyProof.Rows L2 DL RX
/-- the law's way to read an integer is the program's -/
theorem zero_cond {z : Str} (h : signsOf z ≠ "") : (at0 (signsOf z) 48 && (decide ((signsOf z).length > 1) || at0 z 45)) = (at0 (signsOf z) 48 && !decide (z = "0")) := by
  cases h0 : at0 (signsOf z) 48 with
  | false => rfl
  | true =>
    rw [Bool.true_and, Bool.true_and]
    unfold signsOf at h h0 ⊢
    by_cases hm : cutS z none (some 1) = "-"
    · rw [if_pos hm] at h h0 ⊢
      have e := congrArg (fun x : Str => x.cps.toList) hm
      rw [cut_hd, minus_l] at e
      obtain ⟨c, cs, hc⟩ : ∃ c cs, z.cps.toList = c :: cs := by
        cases hc : z.cps.toList with
        | nil => rw [hc] at e; cases e
        | cons c cs => exact ⟨c, cs, rfl⟩
      rw [hc] at e
      have ec : c = 45 := by simpa using e
      subst ec
      have a45 : at0 z 45 = true := by unfold at0; rw [hc]; rfl
      have nz : z ≠ "0" := fun y => by
        have := congrArg (fun x : Str => x.cps.toList) y
        rw [hc, zero_s] at this
        cases this
      rw [a45, Bool.or_true, decide_eq_false nz]; rfl
    · rw [if_neg hm] at h h0 ⊢
      obtain ⟨c, cs, hc⟩ := ne_cons h
      unfold at0 at h0
      rw [hc] at h0
      have ec : c = 48 := by simpa using h0
      subst ec
      have a45 : at0 z 45 = false := by unfold at0; rw [hc]; rfl
      rw [a45, Bool.or_false]
      have hl : z.length = cs.length + 1 := by rw [← str_len, hc]; rfl
      cases cs with
      | nil =>
        have : z = "0" := str_ext (by rw [hc, zero_s])
        rw [decide_eq_true this, hl]; rfl
      | cons d cs =>
        have : z ≠ "0" := fun y => by
          have := congrArg (fun x : Str => x.cps.toList) y
          rw [hc, zero_s] at this
          cases this
        rw [decide_eq_false this, decide_eq_true (by rw [hl]; simp)]; rfl
theorem intOf_law (z : Str) : intOf z = if (decide (signsOf z = "") || (!digits (signsOf z) || (at0 (signsOf z) 48 && !decide (z = "0")))) = true then none else intText? z := by
  unfold intOf
  by_cases h : signsOf z = ""
  · rw [decide_eq_true h]; rfl
  · rw [decide_eq_false h, ← zero_cond h, Bool.false_or, Bool.false_or]
    cases digits (signsOf z) with
    | false => rfl
    | true => rfl
section
variable {P : Program} {w : World} {K : PySem.W.Frag} {mg : Str → Option Value} {base : Heap} {f C : Addr} {fd : FuncData} {M : Md} {σ : L2.St} {B : Hp} {te : TE} {V : Vl} {d : D}
theorem ok_law_integer (F : Fun K "_law_integer" "_law_integer" s_law_integer f fd) (N : Bn mg) : FnOk P w K mg base CX0 2 f fd ["word"] Sp_integer_of := by
  refine F.ok sc_law_integer (SpQ.len fun _ => rfl) (fun cdv A outer s H vs Q E hr h => ?_)
  obtain ⟨F0, z, tr, hd, p1, k⟩ := h
  obtain ⟨x, rfl, hx⟩ := one_inv hd
  have hz := small640
  refine ⟨_, pss_cons (ps_set (i := 1) sc_law_integer.nd rfl (Or.inl rfl) (pe_ifExp (pt_cmpR op_eq (pe_slice sl_str (pv 0) po_none (po_some pe_int)) pe_str (nomark _)) (pe_slice sl_str (pv 0) (po_some pe_int) po_none) (pv 0)))
    (pss_cons (ps_if (pw_or (pt_cmpR op_eq (pv 1) pe_str (nomark _)) (pw_or (pt_not (pt_val (pe_callB (cr_all rfl) (by rfl) N.all (by decide +kernel) (pa_cons (pe_lc (own := [("sign", 2)]) (g := gName 2) (by rfl) sc_law_integer.nd (pi_str (pv 1)) (blkOk_by (own := [("sign", 2)]) (N := ["word", "signs", "sign"]) (sc := defScope s_law_integer) (by decide +kernel)) (fun _ _ _ _ _ => pg_name (i := 2) sc_law_integer.nd rfl (Or.inl rfl)) (fun _ _ _ _ _ => pts_nil) (fun _ _ _ _ _ => (pe_cmpR op_in_sign (pv 2) pe_str (by rfl)))) pa_nil)))) (pw_or1 (pw_and (pt_cmpR op_eq (pe_ix ix_seq (pv 1) pe_int (fun _ _ => rfl)) pe_str (nomark _)) (pw_and1 (pt_cmpR op_ne (pv 0) pe_str (nomark _)))).pt))).pt (pss_one (ps_ret pe_non)) pss_nil)
    (pss_one (ps_ret (pe_callTy call_int_str (by rfl) N.int (by decide +kernel) (pa_cons (pv 0) pa_nil))))), ?_⟩
  have hl : z.length ≤ 640 := p1
  have hsl := signs_len (z := z)
  refine r_set (d := .str (signsOf z)) (Rn.begin (wd0 tr)) (ev_if (b := decide (cutS z none (some 1) = "-")) (et_cmp (ev_op (ev_slS (ev_var rfl hx) eo_none (eo_some ev_int) (by omega)) ev_str rv_eqS)) (fun q => ev_is (ev_slS (ev_var rfl hx) (eo_some ev_int) eo_none (by omega)) (by unfold signsOf; rw [if_pos (of_decide_eq_true q)])) (fun q => ev_is (ev_var rfl hx) (by unfold signsOf; rw [if_neg (of_decide_eq_false q)]))) fun v B1 H1 e1 g1 R1 d1 => ?_
  refine r_if (b := decide (signsOf z = "") || (!digits (signsOf z) || (at0 (signsOf z) 48 && !decide (z = "0")))) R1 (et_or (et_cmp (ev_op (ev_var rfl d1) ev_str rv_eqS)) fun q => et_or (et_not (et_val (ev_all_in (U := digs) (by omega) (ev_var rfl d1) (fun _ => rfl) (fun _ => rfl) fun c B' e h => ev_in_sign h ev_str))) fun q2 => ?_) (fun q B2 H2 e2 g2 R2 => ?_) (fun q B2 H2 e2 g2 R2 => ?_)
  · obtain ⟨c, l, hc⟩ := ne_cons (of_decide_eq_false q)
    exact et_and (et_is (et_cmp (ev_op (ev_op (ev_var rfl d1) ev_int (rv_ixStr (by omega) (at_head hc))) ev_str rv_eqS)) (by rw [at0_eq hc, zero_s])) fun _ => et_cmp (ev_op (ev_var rfl (hx.mono e1.le)) ev_str rv_neS)
  · exact r_ret R2 ev_non fun v H3 g3 h3 => k v H3 g3 (by show Dt _ (oI (intOf z)) v; rw [intOf_law, if_pos q]; exact h3)
  · refine r_next ?_
    dsimp only
    have q1 : (decide (signsOf z = "") || !digits (signsOf z)) = false := by
      rw [Bool.or_eq_false_iff, Bool.or_eq_false_iff] at q
      rw [Bool.or_eq_false_iff]
      exact ⟨q.1, q.2.1⟩
    obtain ⟨n, hn⟩ := intText_some hl q1
    have hx2 := (hx.mono e1.le).mono e2.le
    exact r_ret R2 (ev_cb (ea_cons (ev_var rfl hx2) ea_nil) (rc_intS hn hl)) fun v H4 g4 h4 => k v H4 g4 (by show Dt _ (oI (intOf z)) v; rw [intOf_law, q, if_neg (by simp), hn]; exact h4)
end
end Pg

namespace Pg
open PySem PySem.Spec PyProof.Rows L2 DL RX
/-- the law's village: a tuple of its houses and its lanes -/
def lvD (V : Vl) : D := .tup [nsD V, .lst (V.ls.map pD)]
theorem lk_zip : ∀ {ks : List L2.Key} {l : List D}, ks.length = l.length → ks.Nodup → ∀ p ∈ ks.zip l, lk ks l p.1 = some p.2
  | [], l, _, _, p, h => by simp at h
  | k :: ks, [], h, _, _, _ => by cases h
  | k :: ks, d :: l, hl, hn, p, h => by
    rw [List.zip_cons_cons] at h
    have hn' := List.nodup_cons.mp hn
    rcases List.mem_cons.mp h with rfl | h
    · unfold lk; rw [if_pos rfl]
    · have hm := (List.of_mem_zip h).1
      unfold lk
      rw [if_neg (fun z => hn'.1 (by rw [z]; exact hm))]
      exact lk_zip (by simpa using hl) hn'.2 p h
def lkW (ks : List L2.Key) (l : List D) (q : L2.Key) : Bool := match lk ks l q with
  | some d => wholeD d
  | none => false
theorem counts_law {V : Vl} {ks : List L2.Key} {l : List D} (hl : ks.length = l.length) (hn : ks.Nodup) : countsD V (.dic ks l) = (decide (l.length = V.ns.length) && ((ks.all fun q => keyIn V q) && ks.all fun q => lkW ks l q)) := by
  show (decide (l.length = V.ns.length) && (ks.zip l).all fun p => keyIn V p.1 && wholeD p.2) = _
  refine congrArg (fun b => decide (l.length = V.ns.length) && b) ?_
  rw [Bool.eq_iff_iff, Bool.and_eq_true, List.all_eq_true, List.all_eq_true, List.all_eq_true]
  constructor
  · intro h
    refine ⟨fun q hq => ?_, fun q hq => ?_⟩
    · obtain ⟨d, e, hz⟩ := lk_some hl hq
      have := h _ hz
      rw [Bool.and_eq_true] at this
      exact this.1
    · obtain ⟨d, e, hz⟩ := lk_some hl hq
      have := h _ hz
      rw [Bool.and_eq_true] at this
      unfold lkW; rw [e]; exact this.2
  · rintro ⟨h1, h2⟩ p hp
    have hm := (List.of_mem_zip hp).1
    have h3 := h2 _ hm
    unfold lkW at h3
    rw [lk_zip hl hn p hp] at h3
    rw [Bool.and_eq_true]
    exact ⟨h1 _ hm, h3⟩
section
variable {P : Program} {w : World} {K : PySem.W.Frag} {mg : Str → Option Value} {base : Heap} {f C : Addr} {fd : FuncData} {M : Md} {σ : L2.St} {B : Hp} {te : TE} {V : Vl} {d : D}
theorem ev_lv0 (h : Ev M te σ B (lvD V)) : Ev M (tOp (rIx K) te (tC (.int 0))) σ B (nsD V) := ev_op h ev_int (rv_ix rfl rfl)
theorem ev_lv1 (h : Ev M te σ B (lvD V)) : Ev M (tOp (rIx K) te (tC (.int 1))) σ B (.lst (V.ls.map pD)) := ev_op h ev_int (rv_ix rfl rfl)
abbrev Sp_law_is_counts (C : Addr) := SpQ (α := Vl × D) (fun p => [lvD p.1, p.2]) (fun p => VOk p.1 ∧ okT C p.2) fun p => .bl (countsD p.1 p.2)
abbrev N_lic : List Str := ["village", "thing", "house"]
theorem ok_law_is_counts (F : Fun K "_law_is_counts" "_law_is_counts" s_law_is_counts f fd) (N : Bn mg) (v : VF K C) : FnOk P w K mg base CX0 1 f fd ["village", "thing"] (Sp_law_is_counts C) := by
  refine F.ok sc_law_is_counts (SpQ.len fun _ => rfl) (fun cdv A outer s H vs Q E hr h => ?_)
  obtain ⟨F0, ⟨V, d⟩, tr, hd, ⟨pV, p1, p2⟩, k⟩ := h
  obtain ⟨x, y, rfl, hx, hy⟩ := two_inv hd
  have hu := hu_of hr
  refine ⟨_, pss_cons (ps_if (pw_or (pt_not (pt_val (pe_callB call_isi (by rfl) N.isinstance (by decide +kernel) (pa_cons (pv 1) (pa_cons (pe_bltn (v := .ty "dict") (by rfl) N.dict (by decide +kernel) rfl) pa_nil))))) (pw_or1 (pt_cmpR op_ne (pe_callB call_lenR (by rfl) N.len PySem.boot_len (pa_cons (pv 1) pa_nil)) (pe_callB call_len_seq (by rfl) N.len PySem.boot_len (pa_cons (pe_ix ix_seq (pv 0) pe_int (fun _ _ => rfl)) pa_nil)) (nomark _)))).pt (pss_one (ps_ret pe_bl)) pss_nil)
    (pss_cons (ps_if (pt_not (pt_val (pe_lockR (pe_callB (cr_all rfl) (by rfl) N.all (by decide +kernel) (pa_cons (pe_lc (te := tAndV (tCB (rIsi K) (tCons (tVar 2) (tCons (tC (.ty "str")) tNil))) (tOp (rIn K false) (tVar 2) (tOp (rIx K) (tVar 0) (tC (.int 0))))) (own := [("house", 2)]) (g := gName 2) (by rfl) sc_law_is_counts.nd (pi_keys (pv 1)) (blkOk_by (own := [("house", 2)]) (N := N_lic) (sc := defScope s_law_is_counts) (by decide +kernel)) (fun _ _ _ _ _ => pg_name (i := 2) sc_law_is_counts.nd rfl (Or.inl rfl)) (fun _ _ _ _ _ => pts_nil) (fun _ _ _ _ _ => (by exact (pe_and (pe_callB call_isi (by rfl) N.isinstance (by decide +kernel) (pa_cons (pv 2) (pa_cons (pe_bltn (v := .ty "str") (by rfl) N.str (by decide +kernel) rfl) pa_nil))) (pe_one (pe_cmpR op_in_seq (pv 2) (pe_ix ix_seq (pv 0) pe_int (fun _ _ => rfl)) (by rfl))))))) pa_nil))))) (pss_one (ps_ret pe_bl)) pss_nil)
    (pss_one (ps_ret (pe_lockR (pe_callB (cr_all rfl) (by rfl) N.all (by decide +kernel) (pa_cons (pe_lc (te := tAndV (tCB (rIsi K) (tCons (tDGet (tVar 1) (tVar 2)) (tCons (tC (.ty "int")) tNil))) (tNotV (tCB (rIsi K) (tCons (tDGet (tVar 1) (tVar 2)) (tCons (tC (.ty "bool")) tNil))))) (own := [("house", 2)]) (g := gName 2) (by rfl) sc_law_is_counts.nd (pi_keys (pv 1)) (blkOk_by (own := [("house", 2)]) (N := N_lic) (sc := defScope s_law_is_counts) (by decide +kernel)) (fun _ _ _ _ _ => pg_name (i := 2) sc_law_is_counts.nd rfl (Or.inl rfl)) (fun _ _ _ _ _ => pts_nil) (fun _ _ _ _ _ => (by exact (pe_and (pe_callB call_isi (by rfl) N.isinstance (by decide +kernel) (pa_cons (pe_dget hu (pv 1) (pv 2) (fun _ _ => rfl)) (pa_cons (pe_bltn (v := .ty "int") (by rfl) N.int (by decide +kernel) rfl) pa_nil))) (pe_one (pe_not (pe_callB call_isi (by rfl) N.isinstance (by decide +kernel) (pa_cons (pe_dget hu (pv 1) (pv 2) (fun _ _ => rfl)) (pa_cons (pe_bltn (v := .ty "bool") (by rfl) N.bool (by decide +kernel) rfl) pa_nil))))))))) pa_nil)))))), ?_⟩
  have no : countsD V d = false → ∀ (v : L2.V) (H2 : Hp), Go M0 F0 H H2 → Dt (Hd M0 F0 H2) (.bl false) v → Q v H2 := fun e v H2 g2 h2 => k v H2 g2 (by show Dt _ (.bl (countsD V d)) v; rw [e]; exact h2)
  have pV : VOk V := pV
  have hn : V.ns.length ≤ 16 := pV.n
  have h16 := small16
  refine r_if (b := !isDictD d || !decide ((lenD d : Int) = (V.ns.length : Nat))) (Rn.begin (wd0 tr)) (et_or (et_not (et_val (ev_dict' v p1 (ev_var rfl hy)))) fun q => ?_) (fun q B' H' e g R => ?_) (fun q B' H' e g R => ?_)
  · cases d with
    | dic ks l =>
      refine et_cmp (ev_op (ev_cb (ea_cons (ev_var rfl hy) ea_nil) rc_lenD) (ev_cb (ea_cons (ev_lv0 (ev_var rfl hx)) ea_nil) (rc_len rfl)) ?_)
      rw [List.length_map]
      exact rv_neI
    | _ => cases q
  · refine r_ret R ev_bl (no ?_)
    cases d with
    | dic ks l =>
      have q' : ¬ (l.length = V.ns.length) := by
        intro z
        simp [isDictD, lenD, z] at q
      simp [countsD, q']
    | _ => rfl
  · cases d with
    | dic ks l =>
      have q' : l.length = V.ns.length := by
        simp [isDictD, lenD] at q
        have := of_decide_eq_true q
        omega
      obtain ⟨hkl, hkn, hok⟩ := p2 ks l rfl
      have hcl := counts_law (V := V) hkl hkn
      rw [q', decide_eq_true rfl, Bool.true_and] at hcl
      obtain ⟨a, es, ea, _⟩ := dic_inv hy
      subst ea
      refine r_next ?_
      dsimp only
      have hxe := hx.mono e.le
      have hye := hy.mono e.le
      refine r_if (b := !(ks.all fun q => keyIn V q)) R (et_not (et_val (ev_lockR hye fun B2 es le ek hl lkd => ?_))) (fun q2 B3 H3 e3 g3 R3 => ?_) (fun q2 B3 H3 e3 g3 R3 => ?_)
      · refine ev_is (ev_cb (ea_cons (EvF.ev (ef_is (ef_lcmA (ys := ks) (en := kD) (fun q => .bl (keyIn V q)) ?_ (by omega) ?_) ?_)) ea_nil) (rc_all (bs := ks.map fun q => keyIn V q))) ?_
        · have := ei_keys (M := M0) (td := tVar 1) (σ := L2.start N_lic [x, .ref a]) (at_var rfl) lkd
          rw [← ek, List.map_map]
          exact this
        · intro q hq
          refine turn_name (fun _ => rfl) fun B' z e' dz => ⟨et_yes, fun _ => ?_⟩
          refine ev_is (ev_andV (a := isStrD (kD q)) (b := keyIn V q) (ev_str' v (kD_ok q) (ev_var rfl dz)) fun qs => ?_) (by cases q <;> rfl)
          cases q with
          | inl i => cases qs
          | inr s => exact ev_op (ev_var rfl dz) (ev_lv0 (ev_var rfl ((hxe.mono le).mono e'.le))) (rv_inS rfl)
        · rw [List.map_map]; rfl
        · rw [List.all_map]; rfl
      · refine r_ret R3 ev_bl (no ?_)
        rw [hcl, show (ks.all fun q => keyIn V q) = false by simpa using q2]; rfl
      · refine r_next ?_
        dsimp only
        have hye3 := hye.mono e3.le
        refine r_ret (De := EQ Q) (d := .bl (countsD V (.dic ks l))) R3 (ev_is (ev_lockR hye3 fun B2 es le ek hl lkd => ?_) (?_ : D.bl (ks.all fun q => lkW ks l q) = _)) k
        · refine ev_is (ev_cb (ea_cons (EvF.ev (ef_is (ef_lcmA (ys := ks) (en := kD) (fun q => .bl (lkW ks l q)) ?_ (by omega) ?_) ?_)) ea_nil) (rc_all (bs := ks.map fun q => lkW ks l q))) ?_
          · have := ei_keys (M := M0) (td := tVar 1) (σ := L2.start N_lic [x, .ref a]) (at_var rfl) lkd
            rw [← ek, List.map_map]
            exact this
          · intro q hq
            refine turn_name (fun _ => rfl) fun B' z e' dz => ⟨et_yes, fun _ => ?_⟩
            obtain ⟨dq, eq, hz⟩ := lk_some hkl hq
            have okd := hok _ (List.of_mem_zip hz).2
            have eg : Ev M0 (tDGet (tVar 1) (tVar 2)) [some x, some (.ref a), some z] B' dq := ev_dget (ev_var rfl ((hye3.mono le).mono e'.le)) (ev_var rfl dz) eq
            refine ev_is (ev_andV (a := isIntD dq) (b := !isBoolD dq) (ev_int' v okd eg) fun _ => ev_notV (ev_bool v okd eg)) ?_
            unfold lkW
            rw [eq]
            exact congrArg D.bl (whole_eq dq)
          · rw [List.map_map]; rfl
          · rw [List.all_map]; rfl
        · rw [hcl, show (ks.all fun q => keyIn V q) = true by simpa using q2]; rfl
    | _ => simp [isDictD] at q
end
end Pg

namespace Pg
open PySem PySem.Spec PyProof.Rows L2 DL RX
theorem mergeK_new : ∀ {more kvs : List (L2.Key × L2.V)}, ((kvs ++ more).map (·.1)).Nodup → mergeK kvs more = kvs ++ more
  | [], kvs, _ => by unfold mergeK; simp
  | (k, v) :: more, kvs, h => by
    have hk : k ∉ kvs.map (·.1) := fun hm => by
      rw [List.map_append, List.nodup_append] at h
      exact h.2.2 _ hm _ (by simp) rfl
    show mergeK (putK kvs k v) more = _
    rw [DL.putK_new hk, mergeK_new (by rw [List.append_assoc]; exact h), List.append_assoc]
    rfl
section
variable {P : Program} {w : World} {K : PySem.W.Frag} {mg : Str → Option Value} {base : Heap} {f C : Addr} {fd : FuncData} {M : Md} {σ : L2.St} {B : Hp} {te : TE} {V : Vl} {d : D}
/-- dict([(house, e), ..]) -/
abbrev rDictP (K : PySem.W.Frag) : List L2.V → Hp → VK → Prop := fun xs H Q => ∃ (a : Addr) (ps : List Addr) (kvs : List (L2.Key × L2.V)), xs = [.ref a] ∧ SqL K H a (ps.map L2.V.ref) ∧ Paired (fun p kv => SqT K H p [kV kv.1, kv.2]) ps kvs ∧
    ∀ p, H p = none → Q (.ref p) (upd H p (.dK (mergeK [] kvs)))
theorem pairs_inv {H : Hp} {g : Str → D} : ∀ {ns : List Str} {vs : List L2.V}, DtL H (ns.map fun a => D.tup [.str a, g a]) vs → ∃ (ps : List Addr) (kvs : List (L2.Key × L2.V)), vs = ps.map L2.V.ref ∧ Paired (fun p kv => H p = some (.tup [kV kv.1, kv.2])) ps kvs ∧ kvs.map (·.1) = ns.map .inr ∧ DtL H (ns.map g) (kvs.map (·.2))
  | [], vs, h => ⟨[], [], DtL.nil_inv h, .nil, rfl, DtL.nil⟩
  | a :: ns, vs, h => by
    obtain ⟨v, r, rfl, hv, hr⟩ := DtL.cons_inv h
    obtain ⟨p, ws, rfl, hp, hw⟩ := tup_inv hv
    obtain ⟨x, y, rfl, hx, hy⟩ := two_inv hw
    have ex : x = .str a := hx
    subst ex
    obtain ⟨ps, kvs, rfl, h1, h2, h3⟩ := pairs_inv hr
    exact ⟨p :: ps, (.inr a, y) :: kvs, rfl, .cons hp h1, by rw [List.map_cons, List.map_cons, h2], DtL.cons hy h3⟩
theorem paired_imp {α β : Type} {F G : α → β → Prop} (h : ∀ a b, F a b → G a b) : ∀ {l : List α} {m : List β}, Paired F l m → Paired G l m
  | _, _, .nil => .nil
  | _, _, .cons a b => .cons (h _ _ a) (paired_imp h b)
theorem eg_dictP {ns : List Str} {g : Str → D} (h : Ev M te σ B (.lst (ns.map fun a => D.tup [.str a, g a]))) (hn : ns.Nodup) : EvG M (tCB (rDictP K) (tCons te tNil)) σ B (ns.map .inr) (ns.map g) := fun F H Q W k => h F H _ W fun v H1 g1 e => by
  obtain ⟨a, vs, rfl, ha, hl⟩ := lst_inv e
  obtain ⟨ps, kvs, rfl, h1, h2, h3⟩ := pairs_inv hl
  refine ⟨a, ps, kvs, rfl, SqL.of (hdL ha), paired_imp (fun p kv hp => SqT.of (hdT hp)) h1, fun p hp => ?_⟩
  have em : mergeK [] kvs = kvs := by
    have := mergeK_new (more := kvs) (kvs := []) (by rw [List.nil_append, h2]; exact nodup_inr hn)
    rw [List.nil_append] at this
    exact this
  rw [em]
  exact k p kvs _ (W.back g1 (Fr.of hp)) (g1.trans ((W.go g1).new hp _)) upd_same h2 (h3.mono (hidden_up hp).le)
/-! ### sums over the lanes -/
theorem sum_if {ns : List Str} (hn : ns.Nodup) {v : Str} (hv : v ∈ ns) (x : Int) : (ns.map fun b => if b = v then x else 0).sum = x := by
  induction ns with
  | nil => cases hv
  | cons a ns ih =>
    have hn' := List.nodup_cons.mp hn
    rw [List.map_cons, List.sum_cons]
    by_cases z : a = v
    · subst z
      rw [if_pos rfl]
      have : (ns.map fun b => if b = a then x else 0).sum = 0 := by
        have e : (ns.map fun b => if b = a then x else (0 : Int)) = ns.map fun _ => (0 : Int) := List.map_congr_left fun b hb => if_neg (fun z => hn'.1 (by rw [← z]; exact hb))
        rw [e]
        clear ih hn hn' hv e
        induction ns with
        | nil => rfl
        | cons b ns ih => rw [List.map_cons, List.sum_cons, ih]; rfl
      rw [this]; omega
    · rw [if_neg z, ih hn'.2 ((List.mem_cons.mp hv).resolve_left fun q => z q.symm)]
      omega
theorem sum_add {ns : List Str} {p q : Str → Int} : (ns.map fun b => p b + q b).sum = (ns.map p).sum + (ns.map q).sum := by
  induction ns with
  | nil => rfl
  | cons a ns ih => rw [List.map_cons, List.map_cons, List.map_cons, List.sum_cons, List.sum_cons, List.sum_cons, ih]; omega
/-- what the lanes bring a house -/
def flowL (ls : List (Str × Str)) (h : Str → Int) (a : Str) : Int := (ls.map fun p => if p.1 = a then h p.1 - h p.2 else if p.2 = a then h p.2 - h p.1 else 0).sum
theorem cnt_cons {ls : List (Str × Str)} {u v a b : Str} : cnt ((u, v) :: ls) a b = (if (u = a ∧ v = b) ∨ (u = b ∧ v = a) then 1 else 0) + cnt ls a b := by
  unfold cnt
  by_cases z : (u = a ∧ v = b) ∨ (u = b ∧ v = a)
  · rw [if_pos z, List.filter_cons_of_pos (by simpa using z), List.length_cons]
    rw [Int.natCast_add]; omega
  · rw [if_neg z, List.filter_cons_of_neg (by simpa using z)]
    omega
theorem row_sum {ns : List Str} (hn : ns.Nodup) {h : Str → Int} {a : Str} : ∀ (ls : List (Str × Str)), (∀ p ∈ ls, p.1 ∈ ns ∧ p.2 ∈ ns ∧ p.1 ≠ p.2) →
    (ns.map fun b => cnt ls a b).sum * h a - (ns.map fun b => cnt ls a b * h b).sum = flowL ls h a
  | [], _ => by
    have z1 : ∀ l : List Str, (l.map fun b => cnt [] a b).sum = 0 := fun l => by
      induction l with
      | nil => rfl
      | cons b l ih => rw [List.map_cons, List.sum_cons, ih]; rfl
    have z2 : ∀ l : List Str, (l.map fun b => cnt [] a b * h b).sum = 0 := fun l => by
      induction l with
      | nil => rfl
      | cons b l ih =>
        rw [List.map_cons, List.sum_cons, ih]
        show cnt [] a b * h b + 0 = 0
        rw [show cnt [] a b = 0 from rfl, Int.zero_mul]; rfl
    rw [z1, z2, Int.zero_mul]; rfl
  | (u, v) :: ls, hp => by
    obtain ⟨hu, hv, huv⟩ := hp (u, v) List.mem_cons_self
    dsimp only at hu hv huv
    have ih := row_sum hn (h := h) (a := a) ls fun p hp' => hp p (List.mem_cons_of_mem _ hp')
    have e1 : (ns.map fun b => cnt ((u, v) :: ls) a b).sum = (ns.map fun b => if (u = a ∧ v = b) ∨ (u = b ∧ v = a) then (1 : Int) else 0).sum + (ns.map fun b => cnt ls a b).sum := by
      rw [← sum_add]
      exact congrArg List.sum (List.map_congr_left fun b _ => cnt_cons)
    have e2 : (ns.map fun b => cnt ((u, v) :: ls) a b * h b).sum = (ns.map fun b => if (u = a ∧ v = b) ∨ (u = b ∧ v = a) then h b else 0).sum + (ns.map fun b => cnt ls a b * h b).sum := by
      rw [← sum_add]
      refine congrArg List.sum (List.map_congr_left fun b _ => ?_)
      rw [cnt_cons, Int.add_mul]
      by_cases z : (u = a ∧ v = b) ∨ (u = b ∧ v = a)
      · rw [if_pos z, if_pos z, Int.one_mul]
      · rw [if_neg z, if_neg z, Int.zero_mul]
    rw [e1, e2]
    have ef : flowL ((u, v) :: ls) h a = (if u = a then h u - h v else if v = a then h v - h u else 0) + flowL ls h a := by
      unfold flowL; rw [List.map_cons, List.sum_cons]
    rw [ef, ← ih, Int.add_mul]
    by_cases ua : u = a
    · subst ua
      have hva : ¬ v = u := fun z => huv z.symm
      have f1 : (ns.map fun b => if (u = u ∧ v = b) ∨ (u = b ∧ v = u) then (1 : Int) else 0) = ns.map fun b => if b = v then (1 : Int) else 0 := List.map_congr_left fun b _ => by
        by_cases z : b = v
        · subst z; simp
        · have z' : ¬ v = b := fun q => z q.symm
          simp [z, z', hva]
      have f2 : (ns.map fun b => if (u = u ∧ v = b) ∨ (u = b ∧ v = u) then h b else 0) = ns.map fun b => if b = v then h v else 0 := List.map_congr_left fun b _ => by
        by_cases z : b = v
        · subst z; simp
        · have z' : ¬ v = b := fun q => z q.symm
          simp [z, z', hva]
      rw [f1, f2, sum_if hn hv, sum_if hn hv, if_pos rfl, Int.one_mul]
      omega
    · by_cases va : v = a
      · subst va
        have f1 : (ns.map fun b => if (u = v ∧ v = b) ∨ (u = b ∧ v = v) then (1 : Int) else 0) = ns.map fun b => if b = u then (1 : Int) else 0 := List.map_congr_left fun b _ => by
          by_cases z : b = u
          · subst z; simp
          · have z' : ¬ u = b := fun q => z q.symm
            simp [z, z', ua]
        have f2 : (ns.map fun b => if (u = v ∧ v = b) ∨ (u = b ∧ v = v) then h b else 0) = ns.map fun b => if b = u then h u else 0 := List.map_congr_left fun b _ => by
          by_cases z : b = u
          · subst z; simp
          · have z' : ¬ u = b := fun q => z q.symm
            simp [z, z', ua]
        rw [f1, f2, sum_if hn hu, sum_if hn hu, if_neg ua, if_pos rfl, Int.one_mul]
        omega
      · have zero : ∀ l : List Str, (l.map fun _ => (0 : Int)).sum = 0 := fun l => by
          induction l with
          | nil => rfl
          | cons b l ih => rw [List.map_cons, List.sum_cons, ih]; rfl
        have f1 : (ns.map fun b => if (u = a ∧ v = b) ∨ (u = b ∧ v = a) then (1 : Int) else 0) = ns.map fun _ => (0 : Int) := List.map_congr_left fun b _ => by simp [ua, va]
        have f2 : (ns.map fun b => if (u = a ∧ v = b) ∨ (u = b ∧ v = a) then h b else 0) = ns.map fun _ => (0 : Int) := List.map_congr_left fun b _ => by simp [ua, va]
        rw [f1, f2, zero, if_neg ua, if_neg va, Int.zero_mul]
        omega
theorem beh_flow (pV : VOk V) {g h : Str → Int} (a : Str) : behI V g h a = g a - flowL V.ls h a := by
  rw [← row_sum pV.nd V.ls pV.le]
  unfold behI degI
  omega
end
end Pg

namespace Pg
open PySem PySem.Spec PyProof.Rows L2 DL RX
section
variable {P : Program} {w : World} {K : PySem.W.Frag} {mg : Str → Option Value} {base : Heap} {f C : Addr} {fd : FuncData} {M : Md} {σ : L2.St} {B : Hp} {te : TE} {V : Vl} {d : D}
theorem upd_row {H : Hp} {q : Addr} {ns : List Str} {g : Str → Int} {v : Str} {i j l : Nat} {m : Int} {op : Int → Int → Int} {De : Ends} (hi : σ[i]? = some (some (.ref q))) (hj : σ[j]? = some (some (.str v))) (hl : σ[l]? = some (some (.int m)))
    (hv : H q = some (.dK (ns.map fun b => ((.inr b : L2.Key), L2.V.int (g b))))) (hm : v ∈ ns) (hz : ns.length < sizeLine)
    (k : De.nx σ (upd H q (.dK (ns.map fun b => ((.inr b : L2.Key), L2.V.int (if b = v then op (g v) m else g b)))))) :
    sDPut (tVar i) (tVar j) (tOp (rI0 fun x y => .int (op x y)) (tDGet (tVar i) (tVar j)) (tVar l)) De σ H := by
  refine ⟨_, hi, _, hj, q, .int (g v), rfl, ?_, _, hl, g v, m, rfl, rfl, _, hi, _, hj, q, _, rfl, DPut.k (k := .inr v) hv (by rw [List.length_map]; exact hz), ?_⟩
  · have := DGet.k (k := .inr v) hv
    rw [valV_row (g := fun b => L2.V.int (g b)) hm] at this
    exact this
  · rw [putK_map (g := fun b => L2.V.int (g b)) hm]
    have ef : (ns.map fun b => ((.inr b : L2.Key), if b = v then L2.V.int (op (g v) m) else L2.V.int (g b))) = ns.map fun b => ((.inr b : L2.Key), L2.V.int (if b = v then op (g v) m else g b)) := List.map_congr_left fun b _ => by
      by_cases z : b = v <;> simp [z]
    rw [ef]
    exact k
theorem es_ints {H : Hp} {ns : List Str} {g : Str → Int} {es : List (L2.Key × L2.V)} (hk : es.map (·.1) = ns.map .inr) (hd : DtL H (ns.map fun a => D.int (g a)) (es.map (·.2))) : es = ns.map fun a => ((.inr a : L2.Key), L2.V.int (g a)) := by
  have ev := (show DtL H ((ns.map g).map D.int) (es.map (·.2)) by rw [List.map_map]; exact hd).ints
  have e3 : es = (es.map (·.1)).zip (es.map (·.2)) := by rw [List.zip_map']; simp
  rw [e3, hk, ev, List.map_map, List.zip_map']; rfl
theorem flow_snoc {ls : List (Str × Str)} {u v : Str} {h : Str → Int} {a : Str} : flowL (ls ++ [(u, v)]) h a = flowL ls h a + (if u = a then h u - h v else if v = a then h v - h u else 0) := by
  unfold flowL; rw [List.map_append, List.sum_append]; simp
abbrev Sp_law_behind := SpQG (α := Beh) (fun b => [lvD b.V, b.p, b.s]) (fun b => VOk b.V ∧ DF b.V b.g b.p ∧ DF b.V b.h b.s) (fun b => b.V.ns.map .inr) fun b => b.V.ns.map fun a => .int (behI b.V b.g b.h a)
abbrev N_law_behind : List Str := ["village", "purse", "script", "found", "house", "one", "other", "more"]
theorem ok_law_behind (F : Fun K "_law_behind" "_law_behind" s_law_behind f fd) (N : Bn mg) : FnOk P w K mg base CX0 1 f fd ["village", "purse", "script"] Sp_law_behind := by
  refine F.ok sc_law_behind (SpQG.len fun _ => rfl) (fun cdv A outer s H vs Q E hr hh => ?_)
  obtain ⟨F0, ⟨V, p, sc, g, h⟩, tr, hd, ⟨pV, dp, ds⟩, k⟩ := hh
  obtain ⟨x, y, z, rfl, hx, hy, hz⟩ := three_inv hd
  have hu := hu_of hr
  have pV : VOk V := pV
  have hn : V.ns.length ≤ 16 := pV.n
  have h16 := small16
  refine ⟨_, pss_cons (ps_set (i := 3) sc_law_behind.nd rfl (Or.inl rfl) (pe_callTy (call_dictP rfl) (by rfl) N.dict (by decide +kernel) (pa_cons (pe_lc (te := tTup (tCons (tVar 4) (tCons (tDGet (tVar 1) (tVar 4)) tNil))) (own := [("house", 4)]) (g := gName 4) (by rfl) sc_law_behind.nd (pi_list (pe_ix ix_seq (pv 0) pe_int (fun _ _ => rfl))) (blkOk_by (own := [("house", 4)]) (N := N_law_behind) (sc := defScope s_law_behind) (by decide +kernel)) (fun _ _ _ _ _ => pg_name (i := 4) sc_law_behind.nd rfl (Or.inl rfl)) (fun _ _ _ _ _ => pts_nil) (fun _ _ _ _ _ => (by exact (pe_tup (pa_cons (pv 4) (pa_cons (pe_dget hu (pv 1) (pv 4) (fun _ _ => rfl)) pa_nil)))))) pa_nil)))
    (pss_cons (ps_for (g := gTup K 2 (gCons (gName 5) (gCons (gName 6) gNil))) PassesOwn.never (by rfl) (pi_list (pe_ix ix_seq (pv 0) pe_int (fun _ _ => rfl))) (by exact pg_tup (by rfl) (pgs_cons (pg_name (i := 5) sc_law_behind.nd rfl (Or.inl rfl)) (pgs_cons (pg_name (i := 6) sc_law_behind.nd rfl (Or.inl rfl)) pgs_nil)))
      (pss_cons (ps_set (i := 7) sc_law_behind.nd rfl (Or.inl rfl) (pe_op op_sub (pe_dget hu (pv 2) (pv 5) (fun _ _ => rfl)) (pe_dget hu (pv 2) (pv 6) (fun _ _ => rfl))))
      (pss_cons (ps_dput hu (pv 3) (pv 5) (pe_op op_sub (pe_dget hu (pv 3) (pv 5) (fun _ _ => rfl)) (pv 7)) rfl)
      (pss_one (ps_dput hu (pv 3) (pv 6) (pe_op op_add (pe_dget hu (pv 3) (pv 6) (fun _ _ => rfl)) (pv 7)) rfl)))))
    (pss_one (ps_ret (pv 3)))), ?_⟩
  refine r_setGN (Rn.begin (wd0 tr)) (eg_dictP (ns := V.ns) (g := fun a => .int (g a)) (EvF.ev (ef_is (ef_lcmA (ys := V.ns) (en := D.str) (fun a => .tup [.str a, .int (g a)]) (ei_list (ev_lv0 (ev_var rfl hx))) (by omega) fun a ha => ?_) rfl)) pV.nd) fun q es B1 H1 fq e1 g1' R1 nF nS nF0 hq hk hl => ?_
  · refine turn_name (fun _ => rfl) fun B' u e du => ⟨et_yes, fun _ => ?_⟩
    exact ev_tup (ea_cons (ev_var rfl du) (ea_cons (ev_df dp (ev_var rfl (hy.mono e.le)) (ev_var rfl du) ha) ea_nil)) (show (2 : Nat) ≤ sizeLine by decide)
  have ees := es_ints hk hl
  subst ees
  refine r_for R1 (ei_list (l := V.ls.map pD) (ev_lv1 (ev_var rfl (hx.mono e1.le)))) (fun i σ B' H' => ∃ v5 v6 v7, σ = [some x, some y, some z, some (.ref q), none, v5, v6, v7] ∧ Rn M0 F0 H (q :: F0) B' H' ∧ H' q = some (.dK (V.ns.map fun a => ((.inr a : L2.Key), L2.V.int (g a - flowL (V.ls.take i) h a)))))
    (fun i σ B' H' ⟨_, _, _, _, R, _⟩ => R) (fun B' H' e g2 R => ⟨none, none, none, rfl, R, by
      rw [g2.x q List.mem_cons_self, hq]
      refine congrArg (fun l => some (HO.dK l)) (List.map_congr_left fun b _ => ?_)
      show _ = ((.inr b : L2.Key), L2.V.int (g b - 0))
      rw [Int.sub_zero]⟩) ?_ ?_
  · rintro i d v σ' Bb B1' H1' B2 H2 eb eb1 hd' ⟨v5, v6, v7, rfl, Ri, hq'⟩ e2 g2 R2 dv
    rw [List.getElem?_map] at hd'
    obtain ⟨⟨u, v'⟩, huv, rfl⟩ := Option.map_eq_some_iff.mp hd'
    obtain ⟨hu', hv', huv'⟩ := pV.le _ (List.mem_of_getElem? huv)
    dsimp only at hu' hv' huv'
    have tg : Tg M0 (gTup K 2 (gCons (gName 5) (gCons (gName 6) gNil))) [some x, some y, some z, some (.ref q), none, v5, v6, v7] B2 (pD (u, v')) (fun σ2 B => σ2 = [some x, some y, some z, some (.ref q), none, some (.str u), some (.str v'), v7]) :=
      tg_tup rfl (tgs_cons (tg_name fun B5 v5 e5 d5 => tgs_cons (tg_name fun B6 v6 e6 d6 => tgs_nil fun B7 e7 => by rw [show v5 = .str u from d5, show v6 = .str v' from d6]; rfl)))
    refine tg (q :: F0) B2 H2 v _ (Ex.refl _) R2.w dv ?_
    rintro σ2 rfl
    have hz2 := hz.mono (((e1.trans eb).trans eb1).trans e2).le
    refine r_set (d := .int (h u - h v')) R2 (ev_op (ev_df (a := u) ds (ev_var rfl hz2) (ev_var rfl rfl) hu') (ev_df (a := v') ds (ev_var rfl hz2) (ev_var rfl rfl) hv') (rv_I0 rfl)) fun v7' B3 H3 e3 g3 R3 d7 => ?_
    have ev7 : v7' = .int (h u - h v') := d7
    subst ev7
    have hq3 : H3 q = some (.dK (V.ns.map fun a => ((.inr a : L2.Key), L2.V.int (g a - flowL (V.ls.take i) h a)))) := by rw [g3.x q List.mem_cons_self, g2.x q List.mem_cons_self]; exact hq'
    refine r_seq (upd_row (op := fun x y => x - y) (v := u) (m := h u - h v') rfl rfl rfl hq3 hu' (by omega) ?_)
    dsimp only
    refine upd_row (g := fun b => if b = u then (g u - flowL (V.ls.take i) h u) - (h u - h v') else g b - flowL (V.ls.take i) h b) (op := fun x y => x + y) (v := v') (m := h u - h v') rfl rfl rfl upd_same hv' (by omega) ?_
    have R4 := (R3.put (p := q) (o := .dK (V.ns.map fun b => ((.inr b : L2.Key), L2.V.int (if b = u then (g u - flowL (V.ls.take i) h u) - (h u - h v') else g b - flowL (V.ls.take i) h b)))) List.mem_cons_self nS nF0 rfl).put (p := q) (o := .dK (V.ns.map fun b => ((.inr b : L2.Key), L2.V.int (if b = v' then (if v' = u then (g u - flowL (V.ls.take i) h u) - (h u - h v') else g v' - flowL (V.ls.take i) h v') + (h u - h v') else if b = u then (g u - flowL (V.ls.take i) h u) - (h u - h v') else g b - flowL (V.ls.take i) h b)))) List.mem_cons_self nS nF0 rfl
    refine ⟨B3, (eb1.trans e2).trans e3, _, _, _, rfl, R4, ?_⟩
    rw [upd_same]
    refine congrArg (fun l => some (HO.dK l)) (List.map_congr_left fun b _ => ?_)
    have etake : V.ls.take (i + 1) = V.ls.take i ++ [(u, v')] := by rw [List.take_succ, huv]; rfl
    rw [etake, flow_snoc]
    have hvu : ¬ v' = u := fun z => huv' z.symm
    by_cases zb : b = v'
    · subst zb
      rw [if_pos rfl, if_neg hvu, if_neg huv', if_pos rfl]
      congr 2
      omega
    · by_cases zu : b = u
      · subst zu
        rw [if_neg zb, if_pos rfl, if_pos rfl]
        congr 2
        omega
      · rw [if_neg zb, if_neg zu, if_neg (fun z => zu z.symm), if_neg (fun z => zb z.symm)]
        congr 2
        omega
  · rintro σ' B' H' e ⟨v5, v6, v7, rfl, Ri, hq'⟩
    rw [List.length_map, List.take_length] at hq'
    have e2 : (V.ns.map fun a => ((.inr a : L2.Key), L2.V.int (g a - flowL V.ls h a))) = V.ns.map fun a => ((.inr a : L2.Key), L2.V.int (behI V g h a)) := List.map_congr_left fun a _ => by rw [beh_flow pV]
    rw [e2] at hq'
    refine r_retPG Ri rfl hq' (by rw [List.map_map]; rfl) (ds := V.ns.map fun a => .int (behI V g h a)) ?_ fq k
    have := DtL.ofInts (H := B') (V.ns.map fun a => behI V g h a)
    rw [List.map_map, List.map_map] at this
    rw [List.map_map]
    exact this
end
end Pg

namespace Pg
open PySem PySem.Spec PyProof.Rows L2 DL RX
theorem readD_row {V : Vl} {d : D} (h : rowD d 2 = false) : readD V d = false := by
  unfold readD
  cases hs : sq d with
  | none => rfl
  | some l =>
    have hl : isListD d = true ∧ lenD d = l.length := by cases d <;> first | (cases hs; done) | (cases hs; exact ⟨rfl, rfl⟩)
    unfold rowD at h
    rw [hl.1, hl.2] at h
    match l with
    | [] => rfl
    | [_] => rfl
    | [_, _] => simp at h
    | _ :: _ :: _ :: _ => rfl
def vI (ks : List L2.Key) (l : List D) (q : L2.Key) : Int := match lk ks l q with
  | some (.int i) => i
  | _ => 0
theorem vals_law {n : Int} {V : Vl} {ks : List L2.Key} {l : List D} (hl : ks.length = l.length) (hn : ks.Nodup) (hc : countsD V (.dic ks l) = true) : (l.all fun x => numD x && decide (iD x < n)) = ks.all fun q => decide (0 ≤ vI ks l q) && decide (vI ks l q < n) := by
  have hw : ∀ p ∈ ks.zip l, wholeD p.2 = true := fun p hp => by
    have hc : (decide (l.length = V.ns.length) && (ks.zip l).all fun p => keyIn V p.1 && wholeD p.2) = true := hc
    rw [Bool.and_eq_true, List.all_eq_true] at hc
    have := hc.2 p hp
    rw [Bool.and_eq_true] at this
    exact this.2
  have hv : ∀ p ∈ ks.zip l, ∃ i, p.2 = .int i ∧ vI ks l p.1 = i := fun p hp => by
    have h1 := hw p hp
    have h2 := lk_zip hl hn p hp
    obtain ⟨k, d⟩ := p
    cases d <;> first | (cases h1; done) | skip
    rename_i i
    exact ⟨i, rfl, by unfold vI; rw [h2]⟩
  rw [Bool.eq_iff_iff, List.all_eq_true, List.all_eq_true]
  constructor
  · intro h q hq
    obtain ⟨d, e, hz⟩ := lk_some hl hq
    obtain ⟨i, e1, e2⟩ := hv _ hz
    have h1 := h _ (List.of_mem_zip hz).2
    dsimp only at e1 e2
    subst e1
    rw [e2]
    exact h1
  · intro h x hx
    obtain ⟨j, hj⟩ := List.getElem?_of_mem hx
    have hjl := (List.getElem?_eq_some_iff.mp hj).1
    have hkj : ks[j]? = some (ks[j]'(by omega)) := List.getElem?_eq_getElem (by omega)
    have hz : (ks[j]'(by omega), x) ∈ ks.zip l := List.mem_of_getElem? ((List.getElem?_zip_eq_some (z := (ks[j]'(by omega), x))).mpr ⟨hkj, hj⟩)
    obtain ⟨i, e1, e2⟩ := hv _ hz
    have h1 := h _ (List.of_mem_zip hz).1
    dsimp only at e1 e2
    subst e1
    rw [e2] at h1
    exact h1
section
variable {P : Program} {w : World} {K : PySem.W.Frag} {mg : Str → Option Value} {base : Heap} {f C : Addr} {fd : FuncData} {M : Md} {σ : L2.St} {B : Hp} {te : TE} {V : Vl} {d : D}
theorem at_ix {x : L2.V} {l : List D} {i : Nat} {j : Int} {e : D} (hs : sq d = some l) (hd : Dt B d x) (hi : σ[i]? = some (some x)) (ha : atI l j = some e) : ∃ v, Dt B e v ∧ ∀ B', Le B B' → At M (tOp (rIx K) (tVar i) (tC (.int j))) σ B' v := by
  obtain ⟨a, vs, rfl, h, hl⟩ := sq_get hs hd
  obtain ⟨v, hv, dv⟩ := atD hl ha
  refine ⟨v, dv, fun B' le F H Q W k => ⟨_, hi, ?_⟩⟩
  rcases h with h | h
  · have hb := le.o a _ rfl h
    exact .inl ⟨a, vs, j, v, rfl, rfl, SqL.of (hd_some.mp (W.e a _ hb rfl)).2, hv, k H (Go.refl W.i)⟩
  · have hb := le.o a _ rfl h
    exact .inr (.inl ⟨a, vs, j, v, rfl, rfl, SqT.of (hd_some.mp (W.e a _ hb rfl)).2, hv, k H (Go.refl W.i)⟩)
abbrev Sp_law_is_reading (C : Addr) := SpQ (α := Vl × D) (fun p => [lvD p.1, p.2]) (fun p => VOk p.1 ∧ okR C p.2) fun p => .bl (readD p.1 p.2)
abbrev N_lir : List Str := ["village", "thing", "house", "given"]
theorem ok_law_is_reading {a1 a2 : Addr} (F : Fun K "_law_is_reading" "_law_is_reading" s_law_is_reading f fd) (N : Bn mg) (v : VF K C) (g1 : mg "_law_is_counts" = some (.ref a1)) (O1 : OkF P w K mg base 1 a1 ["village", "thing"] (Sp_law_is_counts C))
    (g2 : mg "_law_behind" = some (.ref a2)) (O2 : OkF P w K mg base 1 a2 ["village", "purse", "script"] Sp_law_behind) : FnOk P w K mg base CX0 2 f fd ["village", "thing"] (Sp_law_is_reading C) := by
  refine F.ok sc_law_is_reading (SpQ.len fun _ => rfl) (fun cdv A outer s H vs Q E hr h => ?_)
  obtain ⟨F0, ⟨V, d⟩, tr, hd, ⟨pV, p1, p2⟩, k⟩ := h
  obtain ⟨x, y, rfl, hx, hy⟩ := two_inv hd
  have hu := hu_of hr
  have pV : VOk V := pV
  have hn : V.ns.length ≤ 16 := pV.n
  have h16 := small16
  refine ⟨_, pss_cons (ps_if (pw_or (pt_not (pt_val (pe_callB call_isiT (by rfl) N.isinstance (by decide +kernel) (pa_cons (pv 1) (pa_cons (pe_tup (pa_cons (pe_bltn (v := .ty "list") (by rfl) N.list (by decide +kernel) rfl) (pa_cons (pe_bltn (v := .ty "tuple") (by rfl) N.tuple (by decide +kernel) rfl) pa_nil))) pa_nil))))) (pw_or (pt_cmpR op_ne (pe_callB call_len_seq (by rfl) N.len PySem.boot_len (pa_cons (pv 1) pa_nil)) pe_int (nomark _)) (pw_or (pt_not (pt_val (pe_callB call_isi (by rfl) N.isinstance (by decide +kernel) (pa_cons (pe_ix ix_seq (pv 1) pe_int (fun _ _ => rfl)) (pa_cons (pe_bltn (v := .ty "int") (by rfl) N.int (by decide +kernel) rfl) pa_nil))))) (pw_or1 (pt_val (pe_callB call_isi (by rfl) N.isinstance (by decide +kernel) (pa_cons (pe_ix ix_seq (pv 1) pe_int (fun _ _ => rfl)) (pa_cons (pe_bltn (v := .ty "bool") (by rfl) N.bool (by decide +kernel) rfl) pa_nil)))))))).pt (pss_one (ps_ret pe_bl)) pss_nil)
    (pss_cons (ps_if (pw_or (pt_cmpR op_lt (pe_ix ix_seq (pv 1) pe_int (fun _ _ => rfl)) pe_int (nomark _)) (pw_or (pt_not (pt_val (pe_c O1 hr g1 (pa_cons (pv 0) (pa_cons (pe_ix ix_seq (pv 1) pe_int (fun _ _ => rfl)) pa_nil)))))
        (pw_or1 (pt_not (pt_val (pe_lockR (pe_callB (cr_all rfl) (by rfl) N.all (by decide +kernel) (pa_cons (pe_lc (te := tChain (rI0 fun i j => .bl (decide (i ≤ j))) (rI0 fun i j => .bl (decide (i < j))) (tC (.int 0)) (tDGet (tOp (rIx K) (tVar 1) (tC (.int 1))) (tVar 2)) (tOp (rIx K) (tVar 1) (tC (.int 0)))) (own := [("house", 2)]) (g := gName 2) (by rfl) sc_law_is_reading.nd (pi_keys (pe_ix ix_seq (pv 1) pe_int (fun _ _ => rfl))) (blkOk_by (own := [("house", 2)]) (N := N_lir) (sc := defScope s_law_is_reading) (by decide +kernel)) (fun _ _ _ _ _ => pg_name (i := 2) sc_law_is_reading.nd rfl (Or.inl rfl)) (fun _ _ _ _ _ => pts_nil) (fun _ _ _ _ _ => (by exact (pe_chain op_le op_lt pe_int (pe_dget hu (pe_ix ix_seq (pv 1) pe_int (fun _ _ => rfl)) (pv 2) (fun _ _ => rfl)) (pe_ix ix_seq (pv 1) pe_int (fun _ _ => rfl)))))) pa_nil)))))))).pt (pss_one (ps_ret pe_bl)) pss_nil)
    (pss_cons (ps_set (i := 3) sc_law_is_reading.nd rfl (Or.inr rfl) (pe_c O2 hr g2 (pa_cons (pv 0) (pa_cons (pe_callTy (call_dictP rfl) (by rfl) N.dict (by decide +kernel) (pa_cons (pe_lc (own := [("house", 2)]) (g := gName 2) (by rfl) sc_law_is_reading.nd (pi_list (pe_ix ix_seq (pv 0) pe_int (fun _ _ => rfl))) (blkOk_by (own := [("house", 2)]) (N := N_lir) (sc := defScope s_law_is_reading) (by decide +kernel)) (fun _ _ _ _ _ => pg_name (i := 2) sc_law_is_reading.nd rfl (Or.inl rfl)) (fun _ _ _ _ _ => pts_nil) (fun _ _ _ _ _ => (pe_tup (pa_cons (pv 2) (pa_cons pe_int pa_nil))))) pa_nil)) (pa_cons (pe_ix ix_seq (pv 1) pe_int (fun _ _ => rfl)) pa_nil)))))
    (pss_one (ps_ret (pe_lockR (pe_callB (cr_all rfl) (by rfl) N.all (by decide +kernel) (pa_cons (pe_lc (te := tOp rEq (tOp (rI (fun _ j => 0 < j) fun i j => .int (i % j)) (tDGet (tVar 3) (tVar 2)) (tOp (rIx K) (tVar 1) (tC (.int 0)))) (tC (.int 0))) (own := [("house", 2)]) (g := gName 2) (by rfl) sc_law_is_reading.nd (pi_keys (pv 3)) (blkOk_by (own := [("house", 2)]) (N := N_lir) (sc := defScope s_law_is_reading) (by decide +kernel)) (fun _ _ _ _ _ => pg_name (i := 2) sc_law_is_reading.nd rfl (Or.inl rfl)) (fun _ _ _ _ _ => pts_nil) (fun _ _ _ _ _ => (by exact (pe_cmpR op_eq (pe_op op_mod (pe_dget hu (pv 3) (pv 2) (fun _ _ => rfl)) (pe_ix ix_seq (pv 1) pe_int (fun _ _ => rfl))) pe_int (nomark _))))) pa_nil))))))), ?_⟩
  have no : readD V d = false → ∀ (v : L2.V) (H2 : Hp), Go M0 F0 H H2 → Dt (Hd M0 F0 H2) (.bl false) v → Q v H2 := fun e v H2 g2 h2 => k v H2 g2 (by show Dt _ (.bl (readD V d)) v; rw [e]; exact h2)
  cases hq1 : rowD d 2 with
  | false =>
    refine r_if (b := true) (Rn.begin (wd0 tr)) (et_is (et_or (a := !isListD d) (b := true) (et_not (et_val (ev_list v p1 (ev_var rfl hy)))) fun q => et_is (et_or (a := true) (b := false) ?_ fun q => by cases q) rfl) (by simp)) (fun _ B1 H1 e1 g1 R1 => ?_) (fun q => by cases q)
    · obtain ⟨l, hs, hl⟩ := sq_of_list (d := d) (by simpa using q)
      refine et_is (et_cmp (ev_op (ev_cb (ea_cons (ev_var rfl hy) ea_nil) (rc_len hs)) ev_int rv_neI)) ?_
      unfold rowD at hq1
      rw [show isListD d = true by simpa using q, hl] at hq1
      have := of_decide_eq_false (by simpa using hq1 : decide ((l.length : Int) = 2) = false)
      rw [decide_eq_false this]; rfl
    · exact r_ret R1 ev_bl (no (readD_row hq1))
  | true =>
    obtain ⟨l, hs, hl⟩ := sq_of_list (d := d) (by unfold rowD at hq1; rw [Bool.and_eq_true] at hq1; exact hq1.1)
    have hil : isListD d = true := by unfold rowD at hq1; rw [Bool.and_eq_true] at hq1; exact hq1.1
    have h2 : l.length = 2 := by
      unfold rowD at hq1; rw [Bool.and_eq_true, hl] at hq1
      have := of_decide_eq_true hq1.2
      omega
    match l, h2 with
    | [m, wt], _ =>
    have e0 : readD V d = readOk V m wt := by unfold readD; rw [hs]
    have om : okT C m := p2 _ hs m (by simp)
    have ow : okT C wt := p2 _ hs wt (by simp)
    have ix0 : ∀ {B' : Hp} {σ : L2.St}, Le (Hd M0 F0 H) B' → σ[1]? = some (some y) → Ev M0 (tOp (rIx K) (tVar 1) (tC (.int 0))) σ B' m := fun e z => ev_op (ev_var z (hy.mono e)) ev_int (rv_ix hs rfl)
    have ix1 : ∀ {B' : Hp} {σ : L2.St}, Le (Hd M0 F0 H) B' → σ[1]? = some (some y) → Ev M0 (tOp (rIx K) (tVar 1) (tC (.int 1))) σ B' wt := fun e z => ev_op (ev_var z (hy.mono e)) ev_int (rv_ix hs rfl)
    have b0 := Le.refl (Hd M0 F0 H)
    refine r_if (b := !isIntD m || isBoolD m) (Rn.begin (wd0 tr)) (et_is (et_or (a := false) (et_is (et_not (et_val (ev_list v p1 (ev_var rfl hy)))) (by rw [hil]; rfl)) fun _ => et_or (a := false) (et_is (et_cmp (ev_op (ev_cb (ea_cons (ev_var rfl hy) ea_nil) (rc_len hs)) ev_int rv_neI)) rfl) fun _ => et_or (a := !isIntD m) (et_not (et_val (ev_int' v om.1 (ix0 b0 rfl)))) fun _ => et_val (ev_bool v om.1 (ix0 b0 rfl))) (by simp)) (fun q B1 H1 e1 g1 R1 => ?_) (fun q B1 H1 e1 g1 R1 => ?_)
    · refine r_ret R1 ev_bl (no ?_)
      rw [e0]
      refine readOk_no ?_
      have : wholeD m = false := by
        rw [← whole_eq]
        cases h1 : isIntD m <;> cases h2 : isBoolD m <;> simp_all
      rw [this]; rfl
    · have hw : wholeD m = true := by
        rw [← whole_eq]
        cases h1 : isIntD m <;> cases h2 : isBoolD m <;> simp_all
      obtain ⟨n, rfl⟩ : ∃ n, m = .int n := by cases m <;> first | (cases hw; done) | exact ⟨_, rfl⟩
      refine r_next ?_
      dsimp only
      have le1 := e1.le
      -- are the counts right, are all below the modulus
      have cnt2 : countsD V wt = true → ∃ ks ws, wt = .dic ks ws := fun h => by cases wt <;> first | (cases h; done) | exact ⟨_, _, rfl⟩
      refine r_if (b := decide (n < 2) || (!countsD V wt || !(match wt with | .dic ks ws => ks.all (fun q => decide (0 ≤ vI ks ws q) && decide (vI ks ws q < n)) | _ => false))) R1 (et_or (et_cmp (ev_op (ix0 le1 rfl) ev_int (rv_I0 rfl))) fun q2 => et_or (et_not (et_val (ev_callQ (inp := fun p : Vl × D => [lvD p.1, p.2]) (V, wt) (ea_cons (ev_var rfl (hx.mono le1)) (ea_cons (ix1 le1 rfl) ea_nil)) ⟨pV, ow⟩))) fun q3 => ?_) (fun q2 B2 H2 e2 g2 R2 => ?_) (fun q2 B2 H2 e2 g2 R2 => ?_)
      · have hc : countsD V wt = true := by simpa using q3
        obtain ⟨ks, ws, rfl⟩ := cnt2 hc
        obtain ⟨hkl, hkn, hok⟩ := ow.2 ks ws rfl
        have hlen : ws.length = V.ns.length := by
          have hc : (decide (ws.length = V.ns.length) && _) = true := hc
          rw [Bool.and_eq_true] at hc
          exact of_decide_eq_true hc.1
        obtain ⟨wv, dwv, awv⟩ := at_ix (M := M0) (K := K) (σ := [some x, some y, none, none]) (i := 1) (j := 1) (e := .dic ks ws) hs (hy.mono le1) rfl rfl
        obtain ⟨wa, wes, rfl, _⟩ := dic_inv dwv
        refine et_not (et_val (ev_lockR dwv fun B3 es le ek hl3 lkd => ?_))
        refine ev_is (ev_cb (ea_cons (EvF.ev (ef_is (ef_lcmA (ys := ks) (en := kD) (fun q => .bl (decide (0 ≤ vI ks ws q) && decide (vI ks ws q < n))) ?_ (by omega) ?_) ?_)) ea_nil) (rc_all (bs := ks.map fun q => decide (0 ≤ vI ks ws q) && decide (vI ks ws q < n)))) ?_
        · have := ei_keys (M := M0) (awv B3 le) lkd
          rw [← ek, List.map_map]
          exact this
        · intro q hq
          refine turn_name (fun _ => rfl) fun B' z e' dz => ⟨et_yes, fun _ => ?_⟩
          obtain ⟨dq, eq, hz⟩ := lk_some hkl hq
          have hwq : wholeD dq = true := by
            have hc : (decide (ws.length = V.ns.length) && (ks.zip ws).all fun p => keyIn V p.1 && wholeD p.2) = true := hc
            rw [Bool.and_eq_true, List.all_eq_true] at hc
            have := hc.2 _ hz
            rw [Bool.and_eq_true] at this
            exact this.2
          obtain ⟨i, rfl⟩ : ∃ i, dq = .int i := by cases dq <;> first | (cases hwq; done) | exact ⟨_, rfl⟩
          have evi : vI ks ws q = i := by unfold vI; rw [eq]
          have leB := (le1.trans le).trans e'.le
          rw [evi]
          exact ev_chainR (d2 := .int i) (d3 := .int n) ev_int (ev_dget (ix1 leB rfl) (ev_var rfl dz) eq) (rv_I0 rfl) fun _ => ⟨ix0 leB rfl, rv_I0 rfl⟩
        · rw [List.map_map]; rfl
        · rw [List.all_map]; rfl
      · refine r_ret R2 ev_bl (no ?_)
        rw [e0]
        rw [Bool.or_eq_true] at q2
        rcases q2 with q2 | q2
        · exact readOk_no (by rw [show iD (.int n) = n from rfl, q2]; simp [wholeD])
        · cases hc : countsD V wt with
          | false => exact readOk_no (by rw [hc]; simp)
          | true =>
            obtain ⟨ks, ws, rfl⟩ := cnt2 hc
            obtain ⟨hkl, hkn, hok⟩ := ow.2 ks ws rfl
            rw [hc] at q2
            show (decide (2 ≤ n) && (countsD V (.dic ks ws) && ((ws.all fun x => numD x && decide (iD x < n)) && _))) = false
            rw [vals_law hkl hkn hc]
            have : (ks.all fun q => decide (0 ≤ vI ks ws q) && decide (vI ks ws q < n)) = false := by simpa using q2
            rw [this]; simp
      · rw [Bool.or_eq_false_iff, Bool.or_eq_false_iff] at q2
        have hn2 : 2 ≤ n := by have := of_decide_eq_false q2.1; omega
        have hc : countsD V wt = true := by simpa using q2.2.1
        obtain ⟨ks, ws, rfl⟩ := cnt2 hc
        obtain ⟨hkl, hkn, hok⟩ := ow.2 ks ws rfl
        have hall : (ks.all fun q => decide (0 ≤ vI ks ws q) && decide (vI ks ws q < n)) = true := by simpa using q2.2.2
        have e3 : readD V d = V.ns.all fun a => decide (behI V (fun _ => 0) (lkI ks ws) a % n = 0) := by
          rw [e0]
          show (decide (2 ≤ n) && (countsD V (.dic ks ws) && ((ws.all fun x => numD x && decide (iD x < n)) && _))) = _
          rw [vals_law hkl hkn hc, hall, hc, decide_eq_true hn2]; rfl
        have hdf := counts_df hkl hkn hc
        refine r_next ?_
        dsimp only
        have le2 := le1.trans e2.le
        have dx2 := hx.mono le2
        refine r_set R2 (EvG.ev (eg_callQ (inp := fun b : Beh => [lvD b.V, b.p, b.s]) (⟨V, _, _, fun _ => 0, lkI ks ws⟩ : Beh) (ea_cons (ev_var rfl dx2) (ea_cons (EvG.ev (eg_dictP (ns := V.ns) (g := fun _ => .int 0) (EvF.ev (ef_is (ef_lcmA (ys := V.ns) (en := D.str) (fun a => .tup [.str a, .int 0]) (ei_list (ev_lv0 (ev_var rfl dx2))) (by omega) fun a ha => ?_) rfl)) pV.nd)) (ea_cons (ix1 le2 rfl) ea_nil))) ⟨pV, df_mk (g := fun _ => 0), hdf⟩)) fun v5 B4 H4 e4 g4 R4 d5 => ?_
        · refine turn_name (fun _ => rfl) fun B' u e du => ⟨et_yes, fun _ => ?_⟩
          exact ev_tup (ea_cons (ev_var rfl du) (ea_cons ev_int ea_nil)) (show (2 : Nat) ≤ sizeLine by decide)
        · obtain ⟨ga, ges, rfl, _⟩ := dic_inv d5
          refine r_ret (De := EQ Q) (d := .bl (readD V d)) R4 (ev_is (ev_lockR d5 fun B5 es le ek hl5 lkd => ?_) (?_ : D.bl (V.ns.all fun a => decide (behI V (fun _ => 0) (lkI ks ws) a % n = 0)) = _)) k
          · have leB := (le2.trans e4.le).trans le
            refine ev_is (ev_cb (ea_cons (EvF.ev (ef_is (ef_lcmA (ys := V.ns) (en := D.str) (fun a => .bl (decide (behI V (fun _ => 0) (lkI ks ws) a % n = 0))) ?_ (by omega) ?_) ?_)) ea_nil) (rc_all (bs := V.ns.map fun a => decide (behI V (fun _ => 0) (lkI ks ws) a % n = 0)))) ?_
            · have := ei_keys (M := M0) (td := tVar 3) (σ := [some x, some y, none, some (.ref ga)]) (at_var rfl) lkd
              have e6 : (es.map fun p => kD p.1) = V.ns.map D.str := by
                have : (es.map fun p => kD p.1) = (es.map (·.1)).map kD := by rw [List.map_map]; rfl
                rw [this, ek, List.map_map]; rfl
              rw [e6] at this
              exact this
            · intro a ha
              refine turn_name (fun _ => rfl) fun B6 z6 e6 d6 => ⟨et_yes, fun _ => ?_⟩
              exact ev_op (ev_op (ev_dget (q := .inr a) (ev_var rfl (((d5.mono le).mono e6.le))) (ev_var rfl d6) (lk_map ha)) (ix0 (leB.trans e6.le) rfl) (rv_I rfl (by omega))) ev_int rv_eqI
            · rw [List.map_map]; rfl
            · rw [List.all_map]; rfl
          · rw [e3]
end
end Pg

namespace Pg
open PySem PySem.Spec PyProof.Rows L2 DL RX
section
variable {P : Program} {w : World} {K : PySem.W.Frag} {mg : Str → Option Value} {base : Heap} {f C : Addr} {fd : FuncData} {M : Md} {σ : L2.St} {B : Hp} {te : TE} {V : Vl} {d : D}
theorem x_retLst {ta : TE} {tr : TA} {De : Ends} {H : Hp} (h : ta σ H fun v H1 => tr σ H1 fun vs H2 => (v :: vs).length ≤ sizeLine ∧ ∀ p, H2 p = none → De.rt (.ref p) (upd H2 p (.lst (v :: vs)))) : tRet (tLst (tCons ta tr)) De σ H := h
/-! ### _law_stream -/
def Sp_stream : Sp := fun vs H Q _ => ∃ (F : List Addr) (ns : List Int), (∀ b ∈ F, ∃ o, H b = some o ∧ notT o = true) ∧ DtL (Hd M0 F H) [.lst (ns.map .int)] vs ∧ ∀ s t H', DL.Fr H s → DL.Fr H t → s ≠ t → Go M0 F H H' → StI s t 0 H' → Q (.ref s) H'
theorem spStream_len : ∀ (vs : List L2.V) (H : Hp) (Q : VK) (E : XK), Sp_stream vs H Q E → vs.length = 1 := fun vs H Q E ⟨F, ns, _, h, _⟩ => by rw [h.length]; rfl
theorem ok_stream (F : Fun K "_law_stream" "_law_stream" s_law_stream f fd) (N : Bn mg) : FnOk P w K mg base CX0 1 f fd ["script"] Sp_stream := by
  refine F.ok sc_law_stream spStream_len (fun cdv A outer s H vs Q E hr h => ?_)
  obtain ⟨F0, ns, tr, hd, k⟩ := h
  obtain ⟨x, rfl, hx⟩ := one_inv hd
  refine ⟨_, pss_one (ps_ret (pe_lst (pa_cons (pe_callTy call_list_of (by rfl) N.list (by decide +kernel) (pa_cons (pv 0) pa_nil)) (pa_cons pe_int (pa_cons pe_int (pa_cons pe_int pa_nil)))))), ?_⟩
  refine x_retLst ?_
  refine r_evF (Rn.begin (wd0 tr)) (ef_cb (ea_cons (ev_var rfl hx) ea_nil) (rcf_list (d := .lst (ns.map .int)) rfl)) fun t vs B1 H1 e1 g1 R1 n1 n2 n3 ht hds => ?_
  have ev := hds.ints
  subst ev
  refine ⟨(show 4 ≤ sizeLine by decide), fun s hs => ?_⟩
  have hst : s ≠ t := fun z => by rw [z, ht] at hs; cases hs
  have g2 := R1.w.new hs (.lst [.ref t, .int 0, .int 0, .int 19])
  have R2 := R1.step g2
  have ft : DL.Fr H t := fun o ho n => by
    by_cases z : t ∈ F0
    · exact n3 z
    · have := R1.e0 t o (hd_some.mpr ⟨⟨(by intro q; cases q), z⟩, ho⟩) n
      exact (hd_some.mp (R1.w.e t o this n)).1.2 List.mem_cons_self
  exact k s t _ (R1.fr (DL.Fr.of hs)) ft hst R2.go ⟨ns, 0, 0, 19, upd_same, by rw [upd_ne (fun z => hst z.symm)]; exact ht, Int.le_refl 0, Nat.le_refl 0, by decide, by decide⟩
end
end Pg

namespace Pg
open PySem PySem.Spec PyProof.Rows L2 DL RX
section
variable {P : Program} {w : World} {K : PySem.W.Frag} {mg : Str → Option Value} {base : Heap} {f C : Addr} {fd : FuncData} {M : Md} {σ : L2.St} {B : Hp} {te : TE} {V : Vl} {d : D}
theorem r_par3G {F0 F : List Addr} {H0 H : Hp} {De : Ends} {tz : TS} {ta tb tc : TE} {d1 d2 : D} {i j l : Nat} {ks : List L2.Key} {ds : List D} (R : Rn M F0 H0 F B H) (h1 : Ev M ta σ B d1) (h2 : ∀ B', Ex B B' → Ev M tb σ B' d2) (h3 : ∀ B', Ex B B' → EvG M tc σ B' ks ds)
    (k : ∀ v u p es B' H', DL.Fr H0 p → Ex B B' → Rn M F0 H0 (p :: F) B' H' → p ∉ F → p ∉ M.S → p ∉ F0 → H' p = some (.dK es) → es.map (·.1) = ks → DtL B' ds (es.map (·.2)) → Dt B' d1 v → Dt B' d2 u → tz De (((σ.set i (some v)).set j (some u)).set l (some (.ref p))) H') :
    tSeq (tPar3 i j l (tCons ta (tCons tb (tCons tc tNil)))) tz De σ H :=
  r_ev (Q := fun v H1 => tb σ H1 fun u H2 => tc σ H2 fun w H3 => ∃ a b c, [v, u, w] = [a, b, c] ∧ tz De (((σ.set i (some a)).set j (some b)).set l (some c)) H3) R h1 fun v B1 H1 e1 g1 R1 dv =>
    r_ev (Q := fun u H2 => tc σ H2 fun w H3 => ∃ a b c, [v, u, w] = [a, b, c] ∧ tz De (((σ.set i (some a)).set j (some b)).set l (some c)) H3) R1 (h2 B1 e1) fun u B2 H2 e2 g2 R2 du =>
      h3 B2 (e1.trans e2) F H2 _ R2.w fun p es H3 fp g3 e3 hk hd => by
        obtain ⟨Rk, xk, n1, n2⟩ := R2.own g3 fp e3 rfl
        exact ⟨_, _, _, rfl, k v u p es _ H3 (R2.fr fp) ((e1.trans e2).trans xk) Rk n1 n2 (fun z => n1 (R2.s _ z)) e3 hk hd ((dv.mono e2.le).mono xk.le) (du.mono xk.le)⟩
abbrev rLn (K : PySem.W.Frag) : List L2.V → Hp → VK → Prop := fun xs H Q => ∃ p ys, xs = [.ref p] ∧ (SqL K H p ys ∨ SqT K H p ys) ∧ Q (.int ys.length) H
def lineD (k : Nat) : D := .tup [.str "line", .int (k : Nat)]
def rsD (V : Vl) : D → D
  | .str s => match parse V s with
    | .inl k => lineD k
    | .inr (m, nums) => .tup [.str "told", .tup [.int m, fD V nums]]
  | _ => lineD 0
abbrev Sp_read_so (C : Addr) := SpQ (α := Vl × D) (fun p => [lvD p.1, p.2]) (fun p => VOk p.1 ∧ okV C p.2 ∧ okS p.2) fun p => rsD p.1 p.2
abbrev N_read_so : List Str := ["village", "text", "lines", "modulus", "found", "k", "line", "words", "number"]
theorem ok_read_so {a4 a5 : Addr} (F : Fun K "_law_read_so" "_law_read_so" s_law_read_so f fd) (N : Bn mg) (v : VF K C) (g4 : mg "_law_integer" = some (.ref a4)) (O4 : OkF P w K mg base 2 a4 ["word"] Sp_integer_of)
    (g5 : mg "_law_is_reading" = some (.ref a5)) (O5 : OkF P w K mg base 2 a5 ["village", "thing"] (Sp_law_is_reading C)) : FnOk P w K mg base CX0 3 f fd ["village", "text"] (Sp_read_so C) := by
  refine F.ok sc_law_read_so (SpQ.len fun _ => rfl) (fun cdv A outer s H vs Q E hr h => ?_)
  obtain ⟨F0, ⟨V, t⟩, tr, hd, ⟨pV, p2, p3⟩, kk⟩ := h
  obtain ⟨x, y, rfl, hx, hy⟩ := two_inv hd
  have hu := hu_of hr
  have h640 := small640
  refine ⟨_, pss_cons (ps_if (pt_not (pt_val (pe_callB call_isi (by rfl) N.isinstance (by decide +kernel) (pa_cons (pv 1) (pa_cons (pe_bltn (v := .ty "str") (by rfl) N.str (by decide +kernel) rfl) pa_nil))))) (pss_one (ps_ret (pe_tup (pa_cons pe_str (pa_cons pe_int pa_nil))))) pss_nil)
    (pss_cons (ps_par3 (i := 2) (j := 3) (l := 4) (by rfl) sc_law_read_so.nd rfl rfl rfl (by decide) (by decide) (by decide) rfl rfl rfl (pa_cons (pe_split (pv 1) pe_str) (pa_cons pe_non (pa_cons pe_dnewK pa_nil))) (by rfl))
    (pss_cons (ps_for (g := gTup K 2 (gCons (gName 5) (gCons (gName 6) gNil))) PassesOwn.never (by rfl) (pi_enum (by rfl) N.enumerate (pa_cons (pe_slice sl_list (pv 2) po_none (po_some (pe_un un_neg pe_int))) pa_nil)) (by exact pg_tup (by rfl) (pgs_cons (pg_name (i := 5) sc_law_read_so.nd rfl (Or.inl rfl)) (pgs_cons (pg_name (i := 6) sc_law_read_so.nd rfl (Or.inl rfl)) pgs_nil)))
      (pss_cons (ps_set (i := 7) sc_law_read_so.nd rfl (Or.inl rfl) (pe_split (pv 6) pe_str))
      (pss_one (ps_if (pt_cmpR op_eq (pv 5) pe_int (nomark _))
        (pss_cons (ps_set (i := 3) sc_law_read_so.nd rfl (Or.inl rfl) (pe_ifExp (pw_and (pt_cmpR op_eq (pe_callB call_len_seq (by rfl) N.len PySem.boot_len (pa_cons (pv 7) pa_nil)) pe_int (nomark _)) (pw_and1 (pt_cmpR op_eq (pe_ix ix_seq (pv 7) pe_int (fun _ _ => rfl)) pe_str (nomark _)))).pt (pe_c O4 hr g4 (pa_cons (pe_ix ix_seq (pv 7) pe_int (fun _ _ => rfl)) pa_nil)) pe_non))
          (pss_one (ps_if (pw_or (pt_cmpR op_isN (pv 3) pe_non (nomark _)) (pw_or1 (pt_cmpR op_lt (pv 3) pe_int (nomark _)))).pt (pss_one (ps_ret (pe_tup (pa_cons pe_str (pa_cons pe_int pa_nil))))) pss_nil)))
        (pss_cons (ps_if (pw_or (pt_cmpR op_gt (pv 5) (pe_callB call_len_seq (by rfl) N.len PySem.boot_len (pa_cons (pe_ix ix_seq (pv 0) pe_int (fun _ _ => rfl)) pa_nil)) (nomark _)) (pw_or (pt_cmpR op_ne (pe_callB call_len_seq (by rfl) N.len PySem.boot_len (pa_cons (pv 7) pa_nil)) pe_int (nomark _)) (pw_or (pt_cmpR op_ne (pe_ix ix_seq (pv 7) pe_int (fun _ _ => rfl)) pe_str (nomark _)) (pw_or1 (pt_cmpR op_ne (pe_ix ix_seq (pv 7) pe_int (fun _ _ => rfl)) (pe_ix ix_seq (pe_ix ix_seq (pv 0) pe_int (fun _ _ => rfl)) (pe_op op_sub (pv 5) pe_int) (fun _ _ => rfl)) (nomark _)))))).pt (pss_one (ps_ret (pe_tup (pa_cons pe_str (pa_cons (pe_op op_add (pv 5) pe_int) pa_nil))))) pss_nil)
        (pss_cons (ps_set (i := 8) sc_law_read_so.nd rfl (Or.inl rfl) (pe_c O4 hr g4 (pa_cons (pe_ix ix_seq (pv 7) pe_int (fun _ _ => rfl)) pa_nil)))
        (pss_cons (ps_if (pw_or (pt_cmpR op_isN (pv 8) pe_non (nomark _)) (pw_or1 (pt_not (pt_chain op_le op_lt pe_int (pv 8) (pv 3))))).pt (pss_one (ps_ret (pe_tup (pa_cons pe_str (pa_cons (pe_op op_add (pv 5) pe_int) pa_nil))))) pss_nil)
        (pss_one (ps_dput hu (pv 4) (pe_ix ix_seq (pv 7) pe_int (fun _ _ => rfl)) (pv 8) rfl)))))))))
    (pss_cons (ps_if (pw_or (pt_cmpR op_ne (pe_ix ix_seq (pv 2) (pe_un un_neg pe_int) (fun _ _ => rfl)) pe_str (nomark _)) (pw_or (pt_cmpR op_lt (pe_callB call_lenR (by rfl) N.len PySem.boot_len (pa_cons (pv 4) pa_nil)) (pe_callB call_len_seq (by rfl) N.len PySem.boot_len (pa_cons (pe_ix ix_seq (pv 0) pe_int (fun _ _ => rfl)) pa_nil)) (nomark _)) (pw_or1 (pt_not (pt_val (pe_c O5 hr g5 (pa_cons (pv 0) (pa_cons (pe_tup (pa_cons (pv 3) (pa_cons (pv 4) pa_nil))) pa_nil)))))))).pt (pss_one (ps_ret (pe_tup (pa_cons pe_str (pa_cons (pe_callB call_len_seq (by rfl) N.len PySem.boot_len (pa_cons (pv 2) pa_nil)) pa_nil))))) pss_nil)
    (pss_one (ps_ret (pe_tup (pa_cons pe_str (pa_cons (pe_tup (pa_cons (pv 3) (pa_cons (pv 4) pa_nil))) pa_nil)))))))), ?_⟩
  have pV : VOk V := pV
  have hn : V.ns.length ≤ 16 := pV.n
  have h16 := small16
  have fin : ∀ {r : D}, rsD V t = r → ∀ (v : L2.V) (H2 : Hp), Go M0 F0 H H2 → Dt (Hd M0 F0 H2) r v → Q v H2 := fun e v H2 g2 h2 => kk v H2 g2 (by show Dt _ (rsD V t) v; rw [e]; exact h2)
  have lineE : ∀ {σ : L2.St} {B : Hp} {te : TE} {i : Int}, Ev M0 te σ B (.int i) → Ev M0 (tTup (tCons (tC (.str "line")) (tCons te tNil))) σ B (.tup [.str "line", .int i]) := fun h => ev_tup (ea_cons ev_str (ea_cons h ea_nil)) (show (2 : Nat) ≤ sizeLine by decide)
  refine r_if (b := !isStrD t) (Rn.begin (wd0 tr)) (et_not (et_val (ev_str' v p2 (ev_var rfl hy)))) (fun q B1 H1 e1 g1 R1 => ?_) (fun q B1 H1 e1 g1 R1 => ?_)
  · exact r_ret R1 (lineE ev_int) (fin (by cases t <;> first | rfl | (cases q; done)))
  cases t with
  | str z =>
    refine r_next ?_
    dsimp only
    have hz : z.length ≤ 640 := (p3 z rfl).1
    have hA : Asc z := (p3 z rfl).2
    have lmem : ∀ {l : Str}, l ∈ linesOf z → l ∈ Txt.split z nl := fun h => by rw [lines_rest]; exact List.mem_append.mpr (.inl h)
    have hx1 := hx.mono e1.le
    refine r_par3G (d1 := .lst (((linesOf z).map .str) ++ [.str (restOf z)])) R1 (ev_is (EvF.ev (ef_split (ev_var rfl (hy.mono e1.le)) ev_str (by decide +kernel) (by omega))) (by
      have := congrArg (List.map D.str) (lines_rest z)
      rw [List.map_append] at this
      exact congrArg D.lst this)) (fun B' e => ev_non) (fun B' e => eg_dict0) fun vl v3 p es B3 H3 fq e3 R3 nF nS nF0 hq hk hl dl3 dv4 => ?_
    have ev4 : v3 = .non := dv4
    subst ev4
    have ees : es = [] := List.map_eq_nil_iff.mp hk
    subst ees
    have dx3 : Dt B3 (lvD V) x := hx1.mono e3.le
    refine r_for R3 (ei_enum (l := (linesOf z).map .str) (ea_cons (ev_is (EvF.ev (ef_slL (ev_var rfl dl3) eo_none (eo_some (ev_un ev_int ru_neg)))) (congrArg D.lst cut_last)) ea_nil)) (fun i σ B' H' => ∃ v3 es v5 v6 v7 v8, σ = [some x, some y, some vl, some v3, some (.ref p), v5, v6, v7, v8] ∧ Rn M0 F0 H (p :: F0) B' H' ∧ H' p = some (.dK es) ∧
        ((i = 0 ∧ v3 = .non ∧ es = []) ∨ ∃ m nums l0 ls, linesOf z = l0 :: ls ∧ 1 ≤ i ∧ modOf l0 = some m ∧ v3 = .int m ∧ nums.length = i - 1 ∧ i - 1 ≤ V.ns.length ∧ parseR V m 1 ls = appR nums (parseR V m i (ls.drop (i - 1))) ∧ es.map (·.1) = (V.ns.take (i - 1)).map .inr ∧ es.map (·.2) = nums.map L2.V.int))
      (fun i σ B' H' ⟨_, _, _, _, _, _, _, R, _⟩ => R) (fun B' H' e g2 R => ⟨.non, [], none, none, none, none, rfl, R, by rw [g2.x p List.mem_cons_self]; exact hq, .inl ⟨rfl, rfl, rfl⟩⟩) ?_ ?_
    · rintro i d v' σ' Bb B1' H1' B4 H4 eb eb1 hd' ⟨v4, es, v6, v7, v8, v9, rfl, Ri, hp, inv⟩ e4 g4' R4 dv
      obtain ⟨e0, he0, rfl⟩ := enumD_get hd'
      rw [List.getElem?_map] at he0
      obtain ⟨line, hline, rfl⟩ := Option.map_eq_some_iff.mp he0
      have hlm : line ∈ linesOf z := List.mem_of_getElem? hline
      have hll : line.length ≤ 640 := Nat.le_trans (split_len (lmem hlm)) hz
      have tg : Tg M0 (gTup K 2 (gCons (gName 5) (gCons (gName 6) gNil))) [some x, some y, some vl, some v4, some (.ref p), v6, v7, v8, v9] B4 (.tup [.int (i : Nat), .str line]) (fun σ2 B => σ2 = [some x, some y, some vl, some v4, some (.ref p), some (.int (i : Nat)), some (.str line), v8, v9]) :=
        tg_tup rfl (tgs_cons (tg_name fun B5 v5 e5 d5 => tgs_cons (tg_name fun B6 v6 e6 d6 => tgs_nil fun B7 e7 => by rw [show v5 = .int (i : Nat) from d5, show v6 = .str line from d6]; rfl)))
      refine tg (p :: F0) B4 H4 v' _ (Ex.refl _) R4.w dv ?_
      rintro σ2 rfl
      have ex4 : Ex B3 B4 := (eb.trans eb1).trans e4
      have dx4 := dx3.mono ex4.le
      have hp4 : H4 p = some (.dK es) := by rw [g4'.x p List.mem_cons_self]; exact hp
      have ivar : ∀ {B' : Hp} {σ : L2.St}, σ[5]? = some (some (.int (i : Nat))) → Ev M0 (tVar 5) σ B' (.int (i : Nat)) := fun h => ev_var h rfl
      refine r_set R4 (EvF.ev (ef_split (a := line) (ev_var rfl rfl) ev_str (by decide +kernel) (by omega))) fun v7' B6 H6 e6 g6 R6 d6 => ?_
      have dx6 := dx4.mono e6.le
      have smem : ∀ {q : Str}, q ∈ Txt.split line " " → q.length ≤ 640 := fun h => Nat.le_trans (split_len h) hll
      refine r_if1 (b := decide (((i : Nat) : Int) = 0)) R6 (et_cmp (ev_op (d1 := .int (i : Nat)) (ev_var rfl rfl) ev_int rv_eqI)) (fun q B5 H5 e5 g5 R5 => ?_) (fun q B5 H5 e5 g5 R5 => ?_)
      · have qi : i = 0 := by have := of_decide_eq_true q; omega
        subst qi
        obtain ⟨rfl, rfl⟩ : v4 = .non ∧ es = [] := by
          rcases inv with ⟨_, a, b⟩ | ⟨_, _, _, _, _, h1, _⟩
          · exact ⟨a, b⟩
          · exact absurd h1 (by omega)
        obtain ⟨ls, hls⟩ : ∃ ls, linesOf z = line :: ls := by
          cases hl : linesOf z with
          | nil => rw [hl] at hline; cases hline
          | cons a l =>
            rw [hl] at hline
            cases hline
            exact ⟨l, rfl⟩
        have d65 := d6.mono e5.le
        obtain ⟨mo, hmo, evm⟩ : ∃ mo : Option Int, (modOf line = match mo with
            | some n => if n > 1 then some n else none
            | none => none) ∧ Ev M0 (tIf (tAnd (tTest (tOp rEq (tCB (fun xs H Q => ∃ p ys, xs = [.ref p] ∧ (SqL K H p ys ∨ SqT K H p ys) ∧ Q (.int ys.length) H) (tCons (tVar 7) tNil)) (tC (.int 2)))) (tTest (tOp rEq (tOp (rIx K) (tVar 7) (tC (.int 0))) (tC (.str "reading"))))) (tCall Sp_integer_of [] E0 (tCons (tOp (rIx K) (tVar 7) (tC (.int 1))) tNil)) (tC .non)) [some x, some y, some vl, some .non, some (.ref p), some (.int ((0 : Nat) : Int)), some (.str line), some v7', v9] B5 (oI mo) := by
          cases hw : Txt.split line " " with
          | nil => exact absurd hw split_ne
          | cons a l =>
            rw [hw] at d65
            have test : EvT M0 (tAnd (tTest (tOp rEq (tCB (fun xs H Q => ∃ p ys, xs = [.ref p] ∧ (SqL K H p ys ∨ SqT K H p ys) ∧ Q (.int ys.length) H) (tCons (tVar 7) tNil)) (tC (.int 2)))) (tTest (tOp rEq (tOp (rIx K) (tVar 7) (tC (.int 0))) (tC (.str "reading"))))) [some x, some y, some vl, some .non, some (.ref p), some (.int ((0 : Nat) : Int)), some (.str line), some v7', v9] B5 (decide ((((a :: l).map D.str).length : Nat) = (2 : Int)) && decide (a = "reading")) :=
              et_and (et_cmp (ev_op (ev_cb (ea_cons (ev_var rfl d65) ea_nil) (rc_len rfl)) ev_int rv_eqI)) fun q => et_cmp (ev_op (ev_op (ev_var rfl d65) ev_int (rv_ix rfl (d := .str a) (by unfold atI ixN; rw [if_pos (Int.le_refl 0), if_pos (by rw [List.length_map, List.length_cons]; omega)]; rfl))) ev_str rv_eqS)
            by_cases hc : (((a :: l).map D.str).length : Nat) = (2 : Int) ∧ a = "reading"
            · have q1 : l.length = 1 := by
                have := hc.1
                rw [List.length_map, List.length_cons] at this
                omega
              match l, q1 with
              | [b], _ =>
              refine ⟨intOf b, ?_, ev_if test (fun _ => ev_callQ (inp := fun s => [.str s]) b (ea_cons (ev_op (ev_var rfl d65) ev_int (rv_ix rfl rfl)) ea_nil) (smem (by rw [hw]; simp))) (fun q => by rw [decide_eq_true hc.1, decide_eq_true hc.2] at q; cases q)⟩
              unfold modOf
              rw [hw]
              show (if a = "reading" then _ else none) = _
              first
                | (rw [if_pos hc.2]; done)
                | (rw [if_pos hc.2]; cases intOf b <;> rfl)
            · refine ⟨none, ?_, ev_if test (fun q => ?_) (fun _ => ev_non)⟩
              · unfold modOf
                rw [hw]
                match l, hc with
                | [], _ => rfl
                | [b], hc =>
                  show (if a = "reading" then _ else none) = _
                  rw [if_neg (fun z => hc ⟨by simp, z⟩)]
                | _ :: _ :: _, _ => rfl
              · rw [Bool.and_eq_true] at q
                exact absurd ⟨of_decide_eq_true q.1, of_decide_eq_true q.2⟩ hc
        refine r_set R5 evm fun v8' B7 H7 e7 g7 R7 d7 => ?_
        cases mo with
        | none =>
          refine r_if1 (b := true) R7 (et_is (et_or (a := true) (b := false) (et_cmp (ev_op (ev_var rfl d7) ev_non rv_isN)) fun q => by cases q) rfl) (fun _ B8 H8 e8 g8 R8 => ?_) (fun q => by cases q)
          exact r_ret R8 (lineE ev_int) (fin (by show (match parse V z with | .inl k => lineD k | .inr (m, nums) => _) = _; rw [parse_nomod hls hmo]; rfl))
        | some n =>
          have ev8 : v8' = .int n := d7
          subst ev8
          dsimp only at hmo
          refine r_if1 (b := decide (n < 2)) R7 (et_is (et_or (a := false) (et_cmp (ev_op (ev_var rfl d7) ev_non rv_isN)) fun _ => et_cmp (ev_op (ev_var rfl d7) ev_int (rv_I0 rfl))) (by simp)) (fun q8 B8 H8 e8 g8 R8 => ?_) (fun q8 B8 H8 e8 g8 R8 => ?_)
          · have := of_decide_eq_true q8
            rw [if_neg (by omega)] at hmo
            exact r_ret R8 (lineE ev_int) (fin (by show (match parse V z with | .inl k => lineD k | .inr (m, nums) => _) = _; rw [parse_nomod hls hmo]; rfl))
          · have := of_decide_eq_false q8
            rw [if_pos (by omega)] at hmo
            refine ⟨B8, ((((eb1.trans e4).trans e6).trans e5).trans e7).trans e8, .int n, [], some (.int (0 : Nat)), some (.str line), _, v9, rfl, R8, ?_, .inr ⟨n, [], line, ls, hls, Nat.le_refl _, hmo, rfl, rfl, Nat.zero_le _, ?_, rfl, rfl⟩⟩
            · rw [g8.x p List.mem_cons_self, g7.x p List.mem_cons_self, g5.x p List.mem_cons_self, g6.x p List.mem_cons_self]; exact hp4
            · show parseR V n 1 ls = appR [] (parseR V n 1 ls)
              cases parseR V n 1 ls <;> rfl
      · have qi : i ≠ 0 := by have := of_decide_eq_false q; omega
        obtain ⟨m, nums, l0, ls, hls, hi1, hm, rfl, hnl, hin, hpar, hek, hev⟩ := inv.resolve_left fun z => qi z.1
        have hdrop : ls.drop (i - 1) = line :: ls.drop i := by
          rw [hls] at hline
          have hl2 : ls[i - 1]? = some line := by
            rw [show i = (i - 1) + 1 by omega, List.getElem?_cons_succ] at hline
            exact hline
          obtain ⟨hlt, hx⟩ := List.getElem?_eq_some_iff.mp hl2
          rw [List.drop_eq_getElem_cons hlt, hx, show i - 1 + 1 = i by omega]
        rw [hdrop] at hpar
        have bad : stepL V m i line = none → rsD V (.str z) = .tup [.str "line", .int (((i : Nat) : Int) + 1)] := fun hs => by
          show (match parse V z with | .inl k => lineD k | .inr (m, nums) => _) = _
          rw [parse_err hls hm (by rw [hpar, app_stop hs])]
          show lineD (i + 1) = _
          unfold lineD
          rw [Int.natCast_add]; rfl
        have d65 := d6.mono e5.le
        have dx5 := dx6.mono e5.le
        have hp5 : H5 p = some (.dK es) := by rw [g5.x p List.mem_cons_self, g6.x p List.mem_cons_self]; exact hp4
        have exB : Ex Bb B5 := ((eb1.trans e4).trans e6).trans e5
        have tA : EvT M0 (tTest (tOp (rI0 fun i j => .bl (decide (j < i))) (tVar 5) (tCB (rLn K) (tCons (tOp (rIx K) (tVar 0) (tC (.int 0))) tNil)))) [some x, some y, some vl, some (.int m), some (.ref p), some (.int (i : Nat)), some (.str line), some v7', v9] B5 (decide (((i : Nat) : Int) > (V.ns.length : Nat))) := et_cmp (ev_op (ivar rfl) (ev_cb (ea_cons (ev_lv0 (ev_var (i := 0) rfl dx5)) ea_nil) (rc_len rfl)) (by rw [List.length_map]; exact rv_I0 rfl))
        have tB : EvT M0 (tTest (tOp rNe (tCB (rLn K) (tCons (tVar 7) tNil)) (tC (.int 3)))) [some x, some y, some vl, some (.int m), some (.ref p), some (.int (i : Nat)), some (.str line), some v7', v9] B5 (!decide (((Txt.split line " ").length : Nat) = (3 : Int))) := et_cmp (ev_op (ev_cb (ea_cons (ev_var (i := 7) rfl d65) ea_nil) (rc_len rfl)) ev_int (by rw [List.length_map]; exact rv_neI))
        by_cases hbig : i > V.ns.length
        · refine r_if (b := true) R5 (et_is (et_or (b := false) (et_is tA (decide_eq_true (by omega))) fun q => by cases q) rfl) (fun _ B8 H8 e8 g8 R8 => ?_) (fun q => by cases q)
          exact r_ret R8 (lineE (ev_op (ivar rfl) ev_int (rv_I0 rfl))) (fin (bad (step_far hbig)))
        · by_cases h3 : (Txt.split line " ").length = 3
          · obtain ⟨a, b, c, hw⟩ : ∃ a b c, Txt.split line " " = [a, b, c] := by
              match hw : Txt.split line " ", h3 with
              | [a, b, c], _ => exact ⟨a, b, c, rfl⟩
            have hst := step_three (m := m) hbig hw
            have d65' := d65
            rw [hw] at d65'
            obtain ⟨h, hh⟩ : ∃ h, V.ns[i - 1]? = some h := ⟨_, List.getElem?_eq_getElem (by omega)⟩
            have hhm : h ∈ V.ns := List.mem_of_getElem? hh
            refine r_if (b := !decide (a = "weigh") || !decide (b = h)) R5 (et_is (et_or (a := false) (et_is tA (decide_eq_false (by omega))) fun _ => et_or (a := false) (et_is tB (by rw [h3]; rfl)) fun _ => et_or (et_cmp (ev_op (ev_op (ev_var rfl d65') ev_int (rv_ix rfl rfl)) ev_str rv_neS)) fun _ => et_cmp (ev_op (ev_op (ev_var rfl d65') ev_int (rv_ix rfl rfl)) (ev_op (ev_lv0 (ev_var rfl dx5)) (ev_op (ivar rfl) ev_int (rv_I0 rfl)) (rv_ix (d := .str h) rfl ?_)) rv_neS)) (by simp)) (fun q8 B8 H8 e8 g8 R8 => ?_) (fun q8 B8 H8 e8 g8 R8 => ?_)
            · unfold atI ixN
              rw [if_pos (by omega), List.length_map, if_pos (by omega)]
              show (V.ns.map D.str)[(((i : Nat) : Int) - 1).toNat]? = _
              rw [show (((i : Nat) : Int) - 1).toNat = i - 1 by omega, List.getElem?_map, hh]; rfl
            · refine r_ret R8 (lineE (ev_op (ivar rfl) ev_int (rv_I0 rfl))) (fin (bad ?_))
              rw [hst, if_neg]
              rintro ⟨rfl, hb⟩
              rw [hh] at hb
              cases hb
              simp at q8
            · rw [Bool.or_eq_false_iff] at q8
              have qa : a = "weigh" := by simpa using q8.1
              have qb : b = h := by simpa using q8.2
              subst qa; subst qb
              rw [if_pos ⟨rfl, hh⟩] at hst
              refine r_next ?_
              dsimp only
              have d8 := d65'.mono e8.le
              refine r_set R8 (ev_callQ (inp := fun s => [.str s]) c (ea_cons (ev_op (ev_var rfl d8) ev_int (rv_ix rfl rfl)) ea_nil) (smem (by rw [hw]; simp))) fun v9' B9 H9 e9 g9 R9 d9 => ?_
              cases hi : intOf c with
              | none =>
                rw [hi] at hst d9
                refine r_if (b := true) R9 (et_is (et_or (a := true) (b := false) (et_cmp (ev_op (ev_var rfl d9) ev_non rv_isN)) fun q => by cases q) rfl) (fun _ B10 H10 e10 g10 R10 => ?_) (fun q => by cases q)
                exact r_ret R10 (lineE (ev_op (ivar rfl) ev_int (rv_I0 rfl))) (fin (bad hst))
              | some n =>
                rw [hi] at hst d9
                have ev9 : v9' = .int n := d9
                subst ev9
                dsimp only at hst
                refine r_if (b := !(decide (0 ≤ n) && decide (n < m))) R9 (et_is (et_or (a := false) (et_cmp (ev_op (ev_var rfl d9) ev_non rv_isN)) fun _ => et_not (et_cmp (ev_chainR (d2 := .int n) (d3 := .int m) ev_int (ev_var rfl rfl) (rv_I0 rfl) fun _ => ⟨ev_var rfl rfl, rv_I0 rfl⟩))) (by simp)) (fun q B10 H10 e10 g10 R10 => ?_) (fun q B10 H10 e10 g10 R10 => ?_)
                · refine r_ret R10 (lineE (ev_op (ivar rfl) ev_int (rv_I0 rfl))) (fin (bad ?_))
                  rw [hst, if_neg]
                  rintro ⟨z1, z2⟩
                  simp [z1, z2] at q
                · have q' : 0 ≤ n ∧ n < m := by simpa using q
                  rw [if_pos q'] at hst
                  refine r_next ?_
                  dsimp only
                  have hp10 : H10 p = some (.dK es) := by rw [g10.x p List.mem_cons_self, g9.x p List.mem_cons_self, g8.x p List.mem_cons_self]; exact hp5
                  have hesl : es.length = i - 1 := by
                    have := congrArg List.length hev
                    rw [List.length_map, List.length_map] at this
                    omega
                  refine r_dput1 (d := .int n) (q := .inr b) R10 List.mem_cons_self nS nF0 rfl hp10 (by omega) (ev_var rfl rfl) (ev_op (ev_var rfl ((d8.mono e9.le).mono e10.le)) ev_int (rv_ix rfl rfl)) fun v B11 H11 e11 R11 hb11 dv11 => ?_
                  have ev11 : v = .int n := dv11
                  subst ev11
                  have hnew : (.inr b : L2.Key) ∉ es.map (·.1) := by
                    rw [hek]
                    intro hm'
                    obtain ⟨b', hb', e'⟩ := List.mem_map.mp hm'
                    cases e'
                    have nd := pV.nd.sublist (List.take_sublist (i - 1 + 1) V.ns)
                    rw [List.take_succ, hh, List.nodup_append] at nd
                    exact nd.2.2 _ hb' _ (by simp) rfl
                  rw [DL.putK_new hnew] at R11 ⊢
                  refine ⟨B11, (((exB.trans e8).trans e9).trans e10).trans e11, .int m, es ++ [(.inr b, .int n)], _, _, _, _, rfl, R11, upd_same, .inr ⟨m, nums ++ [n], l0, ls, hls, by omega, hm, rfl, by rw [List.length_append, hnl, List.length_singleton]; omega, by omega, ?_, ?_, ?_⟩⟩
                  · rw [hpar, app_go hst, show i + 1 - 1 = i by omega]
                  · rw [List.map_append, hek, show i + 1 - 1 = (i - 1) + 1 by omega, map_take_snoc _ hh]; rfl
                  · rw [List.map_append, hev, List.map_append]; rfl
          · refine r_if (b := true) R5 (et_is (et_or (a := false) (et_is tA (decide_eq_false (by omega))) fun _ => et_or (a := true) (b := false) (et_is tB (by rw [decide_eq_false (by omega)]; rfl)) fun q => by cases q) rfl) (fun _ B8 H8 e8 g8 R8 => ?_) (fun q => by cases q)
            exact r_ret R8 (lineE (ev_op (ivar rfl) ev_int (rv_I0 rfl))) (fin (bad (step_many h3)))
    · rintro σ' B' H' eB ⟨v4, es, v6, v7, v8, v9, rfl, Ri, hp, inv⟩
      rw [enumD_length, List.length_map] at inv
      obtain ⟨R', e'⟩ := Ri.tell nF0
      have eB' : Ex B3 (Hd M0 F0 H') := eB.trans e'
      have dxB := dx3.mono eB'.le
      have dlB := dl3.mono eB'.le
      have hpv : Hd M0 F0 H' p = some (.dK es) := hd_some.mpr ⟨⟨nS, nF⟩, hp⟩
      have lastE : ∀ {σ : L2.St}, σ[2]? = some (some vl) → Ev M0 (tOp (rIx K) (tVar 2) (tUn (rU fun i => .int (-i)) (tC (.int 1)))) σ (Hd M0 F0 H') (.str (restOf z)) := fun h => ev_op (ev_var h dlB) (ev_un ev_int ru_neg) (rv_ix rfl at_last)
      have lenE : ((((linesOf z).map D.str) ++ [D.str (restOf z)]).length : Int) = (((linesOf z).length + 1 : Nat) : Int) := by rw [List.length_append, List.length_map]; rfl
      rcases inv with ⟨h0, rfl, rfl⟩ | ⟨m, nums, l0, ls, hls, hi1, hm, rfl, hnl, hin, hpar, hek, hev⟩
      · have hl0 : linesOf z = [] := List.length_eq_zero_iff.mp h0
        have df : Dt (Hd M0 F0 H') (.dic [] []) (.ref p) := dic_mk (.inl hpv) DtL.nil
        have hpos : 0 < V.ns.length := List.length_pos_iff.mpr pV.n0
        refine r_if (b := true) R' (et_is (et_or (a := !decide (restOf z = "")) (b := true) (et_cmp (ev_op (lastE rfl) ev_str rv_neS)) fun _ => et_is (et_or (a := true) (b := false) (et_is (et_cmp (ev_op (ev_cb (ea_cons (ev_var rfl df) ea_nil) rc_lenD) (ev_cb (ea_cons (ev_lv0 (ev_var rfl dxB)) ea_nil) (rc_len rfl)) (rv_I0 rfl))) (by rw [List.length_map]; exact decide_eq_true (by show (0 : Int) < _; omega))) fun q => by cases q) rfl) (by simp)) (fun _ B10 H10 e10 g10 R10 => ?_) (fun q => by cases q)
        refine r_ret R10 (lineE (ev_cb (ea_cons (ev_var rfl (dlB.mono e10.le)) ea_nil) (rc_len rfl))) (fin ?_)
        rw [lenE, hl0]
        show (match parse V z with | .inl k => lineD k | .inr (m, nums) => _) = _
        rw [parse_nil hl0]; rfl
      · have hls2 : ls.length = (linesOf z).length - 1 := by rw [hls]; rfl
        have hpar2 : parseR V m 1 ls = .inr nums := by
          rw [hpar, List.drop_of_length_le (by omega)]
          show Sum.inr (nums ++ []) = _
          rw [List.append_nil]
        have df : Dt (Hd M0 F0 H') (fD V nums) (.ref p) := by
          have := dic_mk (.inl hpv : Rd (Hd M0 F0 H') p (.dK es)) (l := nums.map .int) (by rw [hev]; exact DtL.ofInts nums)
          rw [hek, ← hnl] at this
          exact this
        have hend := parse_end (V := V) hls hm hpar2
        have okf : okR C (.tup [.int m, fD V nums]) := ⟨trivial, fun l hl u hu => by
          cases hl
          rcases List.mem_cons.mp hu with rfl | hu
          · exact ⟨trivial, fun ks l e => by cases e⟩
          · rw [List.mem_singleton] at hu
            subst hu
            refine ⟨trivial, fun ks l e => ?_⟩
            cases e
            refine ⟨by rw [List.length_map, List.length_map, List.length_take]; omega, nodup_inr (pV.nd.sublist (List.take_sublist _ _)), fun u hu => ?_⟩
            obtain ⟨j, _, rfl⟩ := List.mem_map.mp hu
            trivial⟩
        refine r_if (b := badEnd V (restOf z) m nums) R' (et_or (et_cmp (ev_op (lastE rfl) ev_str rv_neS)) fun _ => et_or (et_is (et_cmp (ev_op (ev_cb (ea_cons (ev_var rfl df) ea_nil) rc_lenD) (ev_cb (ea_cons (ev_lv0 (ev_var rfl dxB)) ea_nil) (rc_len rfl)) (rv_I0 rfl))) (by rw [List.length_map, List.length_map, decide_eq_decide]; omega)) fun _ => et_not (et_val (ev_is (ev_callQ (inp := fun p : Vl × D => [lvD p.1, p.2]) (V, .tup [.int m, fD V nums]) (ea_cons (ev_var rfl dxB) (ea_cons (ev_tup (ea_cons (ev_var rfl rfl) (ea_cons (ev_var rfl df) ea_nil)) (show (2 : Nat) ≤ sizeLine by decide)) ea_nil)) ⟨pV, okf⟩) rfl))) (fun q B10 H10 e10 g10 R10 => ?_) (fun q B10 H10 e10 g10 R10 => ?_)
        · rw [if_pos q] at hend
          refine r_ret R10 (lineE (ev_cb (ea_cons (ev_var rfl (dlB.mono e10.le)) ea_nil) (rc_len rfl))) (fin ?_)
          rw [lenE]
          show (match parse V z with | .inl k => lineD k | .inr (m, nums) => _) = _
          rw [hend]; rfl
        · rw [if_neg (by rw [q]; simp)] at hend
          refine r_next ?_
          dsimp only
          refine r_ret R10 (ev_tup (ea_cons ev_str (ea_cons (ev_tup (ea_cons (ev_var (d := .int m) rfl rfl) (ea_cons (ev_var rfl (df.mono e10.le)) ea_nil)) (show (2 : Nat) ≤ sizeLine by decide)) ea_nil)) (show (2 : Nat) ≤ sizeLine by decide)) (fin ?_)
          show (match parse V z with | .inl k => lineD k | .inr (m, nums) => _) = _
          rw [hend]
  | _ => cases q
end
end Pg

namespace Pg
open PySem PySem.Spec PyProof.Rows L2 DL RX
section
variable {P : Program} {w : World} {K : PySem.W.Frag} {mg : Str → Option Value} {base : Heap} {f C : Addr} {fd : FuncData} {M : Md} {σ : L2.St} {B : Hp} {te : TE} {V : Vl} {d : D}
/-! ### Village(a, b) -/
theorem ev_make {tr : TA} {E : XK} (i : Ini) (h : EvA M tr σ B [i.hD, i.lD]) (p : IniOk i) : Ev M (tMake C (Sp_init C) [] E tr) σ B (vD C (mkV i.names i.lanes)) := fun F H Q W k =>
  h F H _ W fun vs H1 g1 hv x dx hx hdx hne => by
    have W1 := W.go g1
    obtain ⟨a, b, rfl, ha, hb⟩ := two_inv hv
    refine ⟨H1, M.S ++ F, x, dx, i, a, b, rfl, rfl, hx, hdx, hne, app_tr W1, by rw [hd_app]; exact ha, by rw [hd_app]; exact hb, p, fun H' g' dV => ⟨rfl, ?_⟩⟩
    have g2 := go_app W1 g'
    rw [hd_app] at dV
    exact k _ H' (g1.trans g2) dV
end
end Pg

namespace Pg
open PySem PySem.Spec PyProof.Rows L2 DL RX
section
variable {P : Program} {w : World} {K : PySem.W.Frag} {mg : Str → Option Value} {base : Heap} {f C : Addr} {fd : FuncData} {M : Md} {σ : L2.St} {B : Hp} {te : TE} {V : Vl} {d : D}
/-! ### _law_copied -/
def CopOk (C : Addr) : Nat → D → Prop
  | 0, x => sq x = none ∧ isDictD x = false ∧ okV C x
  | k + 1, x => okV C x ∧ (∀ l, sq x = some l → l.length ≤ 100 ∧ ∀ a ∈ l, CopOk C k a) ∧ ∀ ks l, x = .dic ks l → ∃ (ns : List Str) (g : Str → D), ks = ns.map .inr ∧ l = ns.map g ∧ ns.Nodup ∧ ns.length ≤ 16 ∧ ∀ a ∈ ns, CopOk C k (g a)
abbrev Sp_copied (C : Addr) (k : Nat) := SpQ (α := D) (fun x => [x]) (fun x => CopOk C k x) fun x => x
abbrev N_copied : List Str := ["thing", "some", "one", "key"]
theorem ok_copied0 (F : Fun K "_law_copied" "_law_copied" s_law_copied f fd) (N : Bn mg) (v : VF K C) : FnOk P w K mg base CX0 2 f fd ["thing"] (Sp_copied C 0) := by
  refine F.ok sc_law_copied (SpQ.len fun _ => rfl) (fun cdv A outer s H vs Q E hr h => ?_)
  obtain ⟨F0, d, tr, hd, ⟨p1, p2, p3⟩, k⟩ := h
  obtain ⟨x, rfl, hx⟩ := one_inv hd
  refine ⟨_, pss_cons (ps_if (pt_val (pe_callB call_isiT (by rfl) N.isinstance (by decide +kernel) (pa_cons (pv 0) (pa_cons (pe_tup (pa_cons (pe_bltn (v := .ty "list") (by rfl) N.list (by decide +kernel) rfl) (pa_cons (pe_bltn (v := .ty "tuple") (by rfl) N.tuple (by decide +kernel) rfl) pa_nil))) pa_nil)))) pss_never pss_nil) (pss_cons (ps_if (pt_val (pe_callB call_isi (by rfl) N.isinstance (by decide +kernel) (pa_cons (pv 0) (pa_cons (pe_bltn (v := .ty "dict") (by rfl) N.dict (by decide +kernel) rfl) pa_nil)))) pss_never pss_nil) (pss_one (ps_ret (pv 0)))), ?_⟩
  refine r_if (b := isListD d) (Rn.begin (wd0 tr)) (et_val (ev_list v p3 (ev_var rfl hx))) (fun q => by rw [isList_sq, p1] at q; cases q) (fun _ B1 H1 e1 g1 R1 => ?_)
  refine r_next ?_
  dsimp only
  refine r_if (b := isDictD d) R1 (et_val (ev_dict' v p3 (ev_var rfl (hx.mono e1.le)))) (fun q => by rw [p2] at q; cases q) (fun _ B2 H2 e2 g2 R2 => ?_)
  refine r_next ?_
  dsimp only
  exact r_ret R2 (ev_var rfl ((hx.mono e1.le).mono e2.le)) k
theorem ok_copied (F : Fun K "_law_copied" "_law_copied" s_law_copied f fd) (N : Bn mg) (v : VF K C) (g2 : mg "_law_copied" = some (.ref f)) (b2 : Binds K fd ["thing"] []) (kp : PySem.W.keepIn K (.ref f) = true) : ∀ k, FnOk P w K mg base CX0 (k + 2) f fd ["thing"] (Sp_copied C k)
  | 0 => ok_copied0 F N v
  | k + 1 => by
    have O2 : OkF P w K mg base (k + 2) f ["thing"] (Sp_copied C k) := ⟨⟨fd, ok_copied F N v g2 b2 kp k, b2⟩, kp⟩
    refine F.ok sc_law_copied (SpQ.len fun _ => rfl) (fun cdv A outer s H vs Q E hr h => ?_)
    obtain ⟨F0, d, tr, hd, ⟨p1, p2, p3⟩, kk⟩ := h
    obtain ⟨x, rfl, hx⟩ := one_inv hd
    have hu := hu_of hr
    have h101 : (101 : Nat) ≤ sizeLine := by decide
    refine ⟨_, pss_cons (ps_if (pt_val (pe_callB call_isiT (by rfl) N.isinstance (by decide +kernel) (pa_cons (pv 0) (pa_cons (pe_tup (pa_cons (pe_bltn (v := .ty "list") (by rfl) N.list (by decide +kernel) rfl) (pa_cons (pe_bltn (v := .ty "tuple") (by rfl) N.tuple (by decide +kernel) rfl) pa_nil))) pa_nil))))
        (pss_cons (ps_setLc (i := 1) (own := [("one", 2)]) (g := gName 2) (by rfl) sc_law_copied.nd rfl rfl (sw_true rfl rfl rfl (by decide +kernel)) (pi_seq (pv 0)) (blkOk_by (own := [("one", 2)]) (N := N_copied) (sc := defScope s_law_copied) (by decide +kernel)) (fun _ _ _ _ _ => pg_name (i := 2) sc_law_copied.nd rfl (Or.inl rfl)) (fun _ _ _ _ _ => pts_nil) (fun _ _ _ _ _ => pe_c O2 hr g2 (pa_cons (pv 2) pa_nil)))
        (pss_one (ps_ret (pe_ifExp (pt_val (pe_callB call_isi (by rfl) N.isinstance (by decide +kernel) (pa_cons (pv 0) (pa_cons (pe_bltn (v := .ty "list") (by rfl) N.list (by decide +kernel) rfl) pa_nil)))) (pv 1) (pe_callTy call_tuple_of (by rfl) N.tuple (by decide +kernel) (pa_cons (pv 1) pa_nil)))))) pss_nil)
      (pss_cons (ps_if (pt_val (pe_callB call_isi (by rfl) N.isinstance (by decide +kernel) (pa_cons (pv 0) (pa_cons (pe_bltn (v := .ty "dict") (by rfl) N.dict (by decide +kernel) rfl) pa_nil))))
        (pss_one (ps_ret (pe_lockR (pe_callTy (call_dictP rfl) (by rfl) N.dict (by decide +kernel) (pa_cons (pe_lc (own := [("key", 3)]) (g := gName 3) (by rfl) sc_law_copied.nd (pi_keys (pv 0)) (blkOk_by (own := [("key", 3)]) (N := N_copied) (sc := defScope s_law_copied) (by decide +kernel)) (fun _ _ _ _ _ => pg_name (i := 3) sc_law_copied.nd rfl (Or.inl rfl)) (fun _ _ _ _ _ => pts_nil) (fun _ _ _ _ _ => (pe_tup (pa_cons (pv 3) (pa_cons (pe_c O2 hr g2 (pa_cons (pe_dget hu (pv 0) (pv 3) (fun _ _ => rfl)) pa_nil)) pa_nil))))) pa_nil))))) pss_nil)
      (pss_one (ps_ret (pv 0)))), ?_⟩
    refine r_if (b := isListD d) (Rn.begin (wd0 tr)) (et_val (ev_list v p1 (ev_var rfl hx))) (fun q B1 H1 e1 g1 R1 => ?_) (fun q B1 H1 e1 g1 R1 => ?_)
    · obtain ⟨l, hs, _⟩ := sq_of_list q
      obtain ⟨hl, hd'⟩ := p2 l hs
      have hx1 := hx.mono e1.le
      refine r_set (d := .lst l) R1 (EvF.ev (ef_is (ef_lcm (fun x => x) (ei_seq hs (ev_var rfl hx1)) (by omega) fun a ha => ?_) (by simp))) fun v1 B2 H2 e2 g2' R2 d2 => ?_
      · exact turn_name (fun _ => rfl) fun B' z e dz => ⟨et_yes, fun _ => ev_callQ (inp := fun x => [x]) (f := fun x => x) a (ea_cons (ev_var rfl dz) ea_nil) (hd' a ha)⟩
      · have hx2 := hx1.mono e2.le
        refine r_ret (De := EQ Q) (d := d) R2 (ev_if (b := isLstD d) (et_val (ev_lst' v p1 (ev_var rfl hx2))) (fun q2 => ?_) fun q2 => ?_) kk
        · cases d <;> first | (cases q2; done) | (cases hs; exact ev_var rfl d2)
        · cases d <;> first | (cases hs; done) | (cases q2; done) | skip
          cases hs
          refine fun F H Q W k3 => ?_
          obtain ⟨a, vs, rfl, ha, hvs⟩ := lst_inv (d2.mono W.e.le)
          exact ⟨_, rfl, a, vs, rfl, .inl ⟨SqL.of (hdL ha), fun q hq => k3 _ _ (W.new hq _) (tup_mk (hd_some.mpr ⟨W.nS (DL.Fr.of hq), upd_same⟩) (hvs.mono (W.new hq _).le))⟩⟩
    · refine r_next ?_
      dsimp only
      have hx1 := hx.mono e1.le
      refine r_if (b := isDictD d) R1 (et_val (ev_dict' v p1 (ev_var rfl hx1))) (fun q2 B2 H2 e2 g2' R2 => ?_) (fun q2 B2 H2 e2 g2' R2 => ?_)
      · cases d <;> first | (cases q2; done) | skip
        rename_i ks l
        obtain ⟨ns, g, rfl, rfl, hnd, hnl, hc⟩ := p3 ks l rfl
        have hx2 := hx1.mono e2.le
        obtain ⟨a, es, ea, _⟩ := dic_inv hx2
        subst ea
        refine r_ret R2 (ev_lockR hx2 fun B3 es le ek hl3 lkd => EvG.ev (eg_dictP (ns := ns) (g := g) (EvF.ev (ef_is (ef_lcmA (ys := ns) (en := D.str) (fun a => .tup [.str a, g a]) ?_ (by omega) fun b hb => ?_) rfl)) hnd)) kk
        · have := ei_keys (M := M0) (td := tVar 0) (σ := L2.start N_copied [.ref a]) (at_var rfl) lkd
          have e6 : (es.map fun p => kD p.1) = ns.map D.str := by
            have : (es.map fun p => kD p.1) = (es.map (·.1)).map kD := by rw [List.map_map]; rfl
            rw [this, ek, List.map_map]; rfl
          rw [e6] at this
          exact this
        · refine turn_name (fun _ => rfl) fun B' z e dz => ⟨et_yes, fun _ => ?_⟩
          exact ev_tup (ea_cons (ev_var rfl dz) (ea_cons (ev_callQ (inp := fun x => [x]) (f := fun x => x) (g b) (ea_cons (ev_dget (q := .inr b) (ev_var rfl ((hx2.mono le).mono e.le)) (ev_var rfl dz) (lk_map hb)) ea_nil) (hc b hb)) ea_nil)) (show (2 : Nat) ≤ sizeLine by decide)
      · refine r_next ?_
        dsimp only
        exact r_ret R2 (ev_var rfl (hx1.mono e2.le)) kk
end
end Pg

namespace Pg
open PySem PySem.Spec PyProof.Rows L2 DL RX RZ
section
variable {K : PySem.W.Frag} {M : Md} {σ : L2.St} {B : Hp} {te : TE} {d e : D} {a b : Addr} {xs ys : List L2.V}
theorem walk_zipT {n : Nat} (hn : n = min xs.length ys.length) : Walk (ItzT K a b) n (fun H => SqT K H a xs ∧ SqT K H b ys) (YPair (fun i => xs[i]?) (fun i => ys[i]?)) := by
  subst hn
  refine ⟨fun i _ hi q => ?_, fun _ q => ⟨xs, ys, q.1, q.2, by omega⟩, fun i H v H' _ q y => ?_⟩
  · have h1 : i < xs.length := by omega
    have h2 : i < ys.length := by omega
    exact ⟨xs, ys, xs[i], ys[i], q.1, q.2, List.getElem?_eq_getElem h1, List.getElem?_eq_getElem h2⟩
  · obtain ⟨T, x, z, rfl, hT, rfl, h1, h2⟩ := y
    exact ⟨T, x, z, rfl, hT, rfl, h1 xs q.1, h2 ys q.2⟩
/-- zip of two lists, or of two tuples -/
theorem ei_zipA {tr : TA} {l m : List D} (hk : (d = .lst l ∧ e = .lst m) ∨ (d = .tup l ∧ e = .tup m)) (h : EvA M tr σ B [d, e]) : EvI M (iZipA K tr) σ B (zipD l m) := fun F H R W k => h F H _ W fun vs H1 g q => by
  obtain ⟨v, w, rfl, e0, e'⟩ := two_inv q
  rcases hk with ⟨rfl, rfl⟩ | ⟨rfl, rfl⟩
  · obtain ⟨a, vs, rfl, ha, hl⟩ := lst_inv e0
    obtain ⟨b, ws, rfl, hb, hm⟩ := lst_inv e'
    refine ⟨a, b, vs, ws, rfl, .inl ⟨SqL.of (hdL ha), SqL.of (hdL hb), k _ H1 g ⟨_, _, walk_zip (xs := vs) (ys := ws) (by simp [zipD, hl.length, hm.length]), fun F' H' W' => ⟨SqL.of (hdL (W'.e a _ ha rfl)), SqL.of (hdL (W'.e b _ hb rfl))⟩, fun F' i H' x H2 hi W' y => ?_⟩⟩⟩
    obtain ⟨T, x1, y1, rfl, hT, rfl, e1, e2⟩ := y
    obtain ⟨d, h1, h2⟩ := hl.get e1
    obtain ⟨d', h1', h2'⟩ := hm.get e2
    obtain ⟨g2, q⟩ := pair_go W' hT (h2.mono W'.e.le) (h2'.mono W'.e.le)
    exact ⟨g2, .tup [d, d'], by rw [zipD, List.getElem?_map, (List.getElem?_zip_eq_some (z := (d, d'))).mpr ⟨h1, h1'⟩]; rfl, q⟩
  · obtain ⟨a, vs, rfl, ha, hl⟩ := tup_inv e0
    obtain ⟨b, ws, rfl, hb, hm⟩ := tup_inv e'
    refine ⟨a, b, vs, ws, rfl, .inr ⟨SqT.of (hdT ha), SqT.of (hdT hb), k _ H1 g ⟨_, _, walk_zipT (xs := vs) (ys := ws) (by simp [zipD, hl.length, hm.length]), fun F' H' W' => ⟨SqT.of (hdT (W'.e a _ ha rfl)), SqT.of (hdT (W'.e b _ hb rfl))⟩, fun F' i H' x H2 hi W' y => ?_⟩⟩⟩
    obtain ⟨T, x1, y1, rfl, hT, rfl, e1, e2⟩ := y
    obtain ⟨d, h1, h2⟩ := hl.get e1
    obtain ⟨d', h1', h2'⟩ := hm.get e2
    obtain ⟨g2, q⟩ := pair_go W' hT (h2.mono W'.e.le) (h2'.mono W'.e.le)
    exact ⟨g2, .tup [d, d'], by rw [zipD, List.getElem?_map, (List.getElem?_zip_eq_some (z := (d, d'))).mpr ⟨h1, h1'⟩]; rfl, q⟩
end
end Pg

/-! DLS3: expressions that draw, put together. -/
namespace DL
open PySem PySem.Spec PyProof.Rows L2
/-- an expression that draws, c draws at most: what comes out is such as P says -/
def EvS (s t : Addr) (c : Nat) (te : TE) (σ : L2.St) (B : Hp) (P : D → Prop) : Prop :=
  ∀ (n : Nat) (F0 : List Addr) (H0 : Hp) (F : List Addr) (H : Hp) (Q : VK), n + c ≤ 2 ^ 40 → Dj s t F → Rn (St s t n) F0 H0 F B H →
    (∀ v B' H' d, P d → Ex B B' → (∀ b ∈ F, H' b = H b) → Rn (St s t (n + c)) F0 H0 F B' H' → Dt B' d v → Q v H') → te σ H Q
def EvSA (s t : Addr) (c : Nat) (ta : TA) (σ : L2.St) (B : Hp) (P : List D → Prop) : Prop :=
  ∀ (n : Nat) (F0 : List Addr) (H0 : Hp) (F : List Addr) (H : Hp) (Q : List V → Hp → Prop), n + c ≤ 2 ^ 40 → Dj s t F → Rn (St s t n) F0 H0 F B H →
    (∀ vs B' H' ds, P ds → Ex B B' → (∀ b ∈ F, H' b = H b) → Rn (St s t (n + c)) F0 H0 F B' H' → DtL B' ds vs → Q vs H') → ta σ H Q
def EvST (s t : Addr) (c : Nat) (tt : TT) (σ : L2.St) (B : Hp) (P : Bool → Prop) : Prop :=
  ∀ (n : Nat) (F0 : List Addr) (H0 : Hp) (F : List Addr) (H : Hp) (Q : Bool → Hp → Prop), n + c ≤ 2 ^ 40 → Dj s t F → Rn (St s t n) F0 H0 F B H →
    (∀ b B' H', P b → Ex B B' → (∀ b ∈ F, H' b = H b) → Rn (St s t (n + c)) F0 H0 F B' H' → Q b H') → tt σ H Q
def EvSI (s t : Addr) (c : Nat) (wi : TI) (σ : L2.St) (B : Hp) (P : List D → Prop) : Prop :=
  ∀ (n : Nat) (F0 : List Addr) (H0 : Hp) (F : List Addr) (H : Hp) (R : It → Hp → Prop), n + c ≤ 2 ^ 40 → Dj s t F → Rn (St s t n) F0 H0 F B H →
    (∀ J ys B' H', P ys → Ex B B' → (∀ b ∈ F, H' b = H b) → Rn (St s t (n + c)) F0 H0 F B' H' → WkD M0 B' J ys → R J H') → wi σ H R
section
variable {s t : Addr} {n m c c0 c1 c2 : Nat} {F0 F G : List Addr} {H0 H H' B B' : Hp} {p : Addr} {d d1 d2 d3 : D} {σ : L2.St} {te ta tb tc tk tv : TE} {tt tw : TT} {tr : TA} {De : Ends} {tz tu tx : TS} {K : PySem.W.Frag} {g : TG} {wi : TI} {P P1 P2 P3 : D → Prop} {PA : List D → Prop} {PB PB2 : Bool → Prop}
theorem EvS.imp (h : EvS s t c te σ B P1) (i : ∀ d, P1 d → P d) : EvS s t c te σ B P := fun n F0 H0 F H Q hc dj R k => h n F0 H0 F H Q hc dj R fun v B' H' d pd => k v B' H' d (i d pd)
theorem EvS.le (h : EvS s t c0 te σ B P) (i : c0 ≤ c) : EvS s t c te σ B P := fun n F0 H0 F H Q hc dj R k => h n F0 H0 F H Q (by omega) dj R fun v B' H' d pd e kk R' dv => k v B' H' d pd e kk (R'.upS (by omega)) dv
theorem EvSA.imp {PA' : List D → Prop} (h : EvSA s t c tr σ B PA') (i : ∀ d, PA' d → PA d) : EvSA s t c tr σ B PA := fun n F0 H0 F H Q hc dj R k => h n F0 H0 F H Q hc dj R fun v B' H' d pd => k v B' H' d (i d pd)
theorem EvST.imp (h : EvST s t c tt σ B PB2) (i : ∀ d, PB2 d → PB d) : EvST s t c tt σ B PB := fun n F0 H0 F H Q hc dj R k => h n F0 H0 F H Q hc dj R fun v B' H' pd => k v B' H' (i v pd)
theorem EvST.le (h : EvST s t c0 tt σ B PB) (i : c0 ≤ c) : EvST s t c tt σ B PB := fun n F0 H0 F H Q hc dj R k => h n F0 H0 F H Q (by omega) dj R fun v B' H' pd e kk R' => k v B' H' pd e kk (R'.upS (by omega))
theorem es_ev (h : ∀ n, Ev (St s t n) te σ B d) : EvS s t 0 te σ B (fun x => x = d) := fun n F0 H0 F H Q hc dj R k =>
  h n F H Q R.w fun v H' g e => k v _ H' d rfl (R.ext g) (fun b hb => g.x b hb) (R.step g) e
theorem esa_nil : EvSA s t 0 tNil σ B (fun ds => ds = []) := fun n F0 H0 F H Q hc dj R k => k [] B H [] rfl (Ex.refl _) (fun _ _ => rfl) R DtL.nil
theorem esa_cons {PR : List D → Prop} (h : EvS s t c1 te σ B P) (hr : ∀ B', Ex B B' → EvSA s t c2 tr σ B' PR) : EvSA s t (c1 + c2) (tCons te tr) σ B (fun ds => ∃ d r, ds = d :: r ∧ P d ∧ PR r) := fun n F0 H0 F H Q hc dj R k =>
  h n F0 H0 F H _ (by omega) dj R fun v B1 H1 d pd e1 k1 R1 dv => hr B1 e1 (n + c1) F0 H0 F H1 _ (by omega) dj R1 fun vs B2 H2 ds pds e2 k2 R2 dvs =>
    k (v :: vs) B2 H2 (d :: ds) ⟨d, ds, rfl, pd, pds⟩ (e1.trans e2) (fun b hb => by rw [k2 b hb, k1 b hb]) (by rw [← Nat.add_assoc]; exact R2) (DtL.cons (dv.mono e2.le) dvs)
theorem esa_one (h : EvS s t c te σ B P) : EvSA s t c (tCons te tNil) σ B (fun ds => ∃ d, ds = [d] ∧ P d) :=
  (esa_cons (c2 := 0) h fun B' e => esa_nil).imp fun ds ⟨d, r, e, pd, er⟩ => ⟨d, by rw [e, er], pd⟩
/-- pure arguments -/
theorem esa_ev {ds : List D} (h : ∀ n, EvA (St s t n) tr σ B ds) : EvSA s t 0 tr σ B (fun x => x = ds) := fun n F0 H0 F H Q hc dj R k =>
  h n F H Q R.w fun v H' g e => k v _ H' ds rfl (R.ext g) (fun b hb => g.x b hb) (R.step g) e
/-- a drawing def called -/
theorem es_call {α : Type} {cost : α → Nat} {inp : α → List D} {pre : α → Prop} {post : α → D → Prop} {i : Nat} {E : XK} (ne : s ≠ t) (hi : σ[i]? = some (some (.ref s))) (ha : EvSA s t c1 tr σ B PA) (hp : ∀ ds, PA ds → ∃ a, ds = inp a ∧ pre a ∧ cost a ≤ c2 ∧ ∀ d, post a d → P d) :
    EvS s t (c1 + c2) (tCall (SpS cost inp pre post) [] E (tCons (tVar i) tr)) σ B P := fun n F0 H0 F H Q hc dj R k =>
  ⟨_, hi, ha n F0 H0 F H _ (by omega) dj R fun ws B1 H1 ds pd e1 k1 R1 hw => by
    obtain ⟨a, rfl, p, hcst, hpost⟩ := hp ds pd
    refine ⟨s, t, n + c1, F, a, ws, by rw [List.append_nil], dj, ne, R1.w.now, hw.mono R1.w.e.le, p, by omega, fun v H' d pd g2 dv => ?_⟩
    obtain ⟨R2, e2⟩ := R1.stepS g2
    exact k v _ H' d (hpost d pd) (e1.trans e2) (fun b hb => by rw [g2.x b hb, k1 b hb]) (R2.upS (by omega)) (dv)⟩
/-- .. with arguments that do not draw -/
theorem es_call0 {α : Type} {cost : α → Nat} {inp : α → List D} {pre : α → Prop} {post : α → D → Prop} {i : Nat} {E : XK} (a : α) (ne : s ≠ t) (hi : σ[i]? = some (some (.ref s))) (ha : ∀ n, EvA (St s t n) tr σ B (inp a)) (hp : pre a) :
    EvS s t (cost a) (tCall (SpS cost inp pre post) [] E (tCons (tVar i) tr)) σ B (post a) :=
  (es_call (c1 := 0) (c2 := cost a) ne hi (esa_ev ha) fun ds e => ⟨a, e, hp, Nat.le_refl _, fun _ h => h⟩).le (by omega)
theorem es_op {r : R2} (ha : EvS s t c1 ta σ B P1) (hb : ∀ B', Ex B B' → EvS s t c2 tb σ B' P2) (hr : ∀ x y, P1 x → P2 y → ∃ z, P z ∧ ∀ M, RV M r x y z) : EvS s t (c1 + c2) (tOp r ta tb) σ B P := fun n F0 H0 F H Q hc dj R k =>
  ha n F0 H0 F H _ (by omega) dj R fun v B1 H1 d pd e1 k1 R1 dv => hb B1 e1 (n + c1) F0 H0 F H1 _ (by omega) dj R1 fun w B2 H2 d2 pd2 e2 k2 R2 dw => by
    obtain ⟨z, pz, hz⟩ := hr d d2 pd pd2
    refine hz _ F B2 H2 v w Q R2.w ((dv.mono e2.le).mono R2.w.e.le) (dw.mono R2.w.e.le) fun u H3 g3 du => ?_
    exact k u _ H3 z pz ((e1.trans e2).trans (R2.ext g3)) (fun b hb => by rw [g3.x b hb, k2 b hb, k1 b hb]) (by rw [← Nat.add_assoc]; exact R2.step g3) du
theorem es_cb {r : List V → Hp → VK → Prop} (ha : EvSA s t c tr σ B PA) (hr : ∀ ds, PA ds → ∃ z, P z ∧ ∀ M, RC M r ds z) : EvS s t c (tCB r tr) σ B P := fun n F0 H0 F H Q hc dj R k =>
  ha n F0 H0 F H _ hc dj R fun vs B1 H1 ds pd e1 k1 R1 dv => by
    obtain ⟨z, pz, hz⟩ := hr ds pd
    refine hz _ F B1 H1 vs Q R1.w (dv.mono R1.w.e.le) fun u H3 g3 du => ?_
    exact k u _ H3 z pz (e1.trans (R1.ext g3)) (fun b hb => by rw [g3.x b hb, k1 b hb]) (R1.step g3) du
/-- a new list comes out -/
theorem es_cbF {r : List V → Hp → VK → Prop} (ha : EvSA s t c tr σ B PA) (hr : ∀ ds, PA ds → ∃ z, P (.lst z) ∧ ∀ M, RCF M r ds z) : EvS s t c (tCB r tr) σ B P := fun n F0 H0 F H Q hc dj R k =>
  ha n F0 H0 F H _ hc dj R fun vs B1 H1 ds pd e1 k1 R1 dv => by
    obtain ⟨z, pz, hz⟩ := hr ds pd
    refine hz _ F B1 H1 vs Q R1.w (dv.mono R1.w.e.le) fun q ws H3 fq g3 e3 du => ?_
    exact k _ _ H3 (.lst z) pz (e1.trans (R1.ext g3)) (fun b hb => by rw [g3.x b hb, k1 b hb]) (R1.step g3) (lst_mk (hd_some.mpr ⟨R1.w.nS fq, e3⟩) (du.mono (hd_sub fun b hb => List.mem_cons_of_mem _ hb).le))
theorem es_tup (ha : EvSA s t c tr σ B PA) (hl : ∀ ds, PA ds → ds.length ≤ sizeLine) : EvS s t c (tTup tr) σ B (fun d => ∃ ds, d = .tup ds ∧ PA ds) := fun n F0 H0 F H Q hc dj R k =>
  ha n F0 H0 F H _ hc dj R fun vs B1 H1 ds pd e1 k1 R1 dv => ⟨by rw [dv.length]; exact hl ds pd, fun q hq => by
    have g := R1.w.new hq (.tup vs)
    exact k _ _ _ (.tup ds) ⟨ds, rfl, pd⟩ (e1.trans (R1.ext g)) (fun b hb => by rw [g.x b hb, k1 b hb]) (R1.step g) (tup_mk (hd_some.mpr ⟨R1.w.nS (Fr.of hq), upd_same⟩) (dv.mono (R1.ext g).le))⟩
theorem es_lst (ha : EvSA s t c tr σ B PA) (hl : ∀ ds, PA ds → ds.length ≤ sizeLine) : EvS s t c (tLst tr) σ B (fun d => ∃ ds, d = .lst ds ∧ PA ds) := fun n F0 H0 F H Q hc dj R k =>
  ha n F0 H0 F H _ hc dj R fun vs B1 H1 ds pd e1 k1 R1 dv => ⟨by rw [dv.length]; exact hl ds pd, fun q hq => by
    have g := R1.w.new hq (.lst vs)
    exact k _ _ _ (.lst ds) ⟨ds, rfl, pd⟩ (e1.trans (R1.ext g)) (fun b hb => by rw [g.x b hb, k1 b hb]) (R1.step g) (lst_mk (hd_some.mpr ⟨R1.w.nS (Fr.of hq), upd_same⟩) (dv.mono (R1.ext g).le))⟩
theorem est_cmp (h : EvS s t c te σ B P) (hb : ∀ d, P d → ∃ b, d = .bl b ∧ PB b) : EvST s t c (tTest te) σ B PB := fun n F0 H0 F H Q hc dj R k =>
  h n F0 H0 F H _ hc dj R fun v B1 H1 d pd e1 k1 R1 dv => by
    obtain ⟨b, rfl, pb⟩ := hb d pd
    exact ⟨b, dv, k b B1 H1 pb e1 k1 R1⟩
theorem est_et {b : Bool} (h : ∀ n, EvT (St s t n) tt σ B b) : EvST s t 0 tt σ B (fun x => x = b) := fun n F0 H0 F H Q hc dj R k =>
  h n F H Q R.w fun H' g => k b _ H' rfl (R.ext g) (fun b hb => g.x b hb) (R.step g)
theorem est_or (h : EvST s t c1 tt σ B PB) (h2 : ∀ B', Ex B B' → PB false → EvST s t c2 tw σ B' PB2) : EvST s t (c1 + c2) (tOr tt tw) σ B (fun b => (b = true ∧ PB true) ∨ (PB false ∧ PB2 b)) := fun n F0 H0 F H Q hc dj R k =>
  h n F0 H0 F H _ (by omega) dj R fun b B1 H1 pb e1 k1 R1 => by
    cases b with
    | true => exact iteT (k true B1 H1 (.inl ⟨rfl, pb⟩) e1 k1 (R1.upS (by omega)))
    | false => exact iteF (h2 B1 e1 pb (n + c1) F0 H0 F H1 Q (by omega) dj R1 fun b B2 H2 pb2 e2 k2 R2 => k b B2 H2 (.inr ⟨pb, pb2⟩) (e1.trans e2) (fun b hb => by rw [k2 b hb, k1 b hb]) (by rw [← Nat.add_assoc]; exact R2))
theorem es_if (h : EvST s t c0 tt σ B PB) (h1 : ∀ B', Ex B B' → PB true → EvS s t c1 ta σ B' P) (h2 : ∀ B', Ex B B' → PB false → EvS s t c1 tb σ B' P) : EvS s t (c0 + c1) (tIf tt ta tb) σ B P := fun n F0 H0 F H Q hc dj R k =>
  h n F0 H0 F H _ (by omega) dj R fun b B1 H1 pb e1 k1 R1 => by
    have fin : ∀ v B' H' d, P d → Ex B1 B' → (∀ b ∈ F, H' b = H1 b) → Rn (St s t (n + c0 + c1)) F0 H0 F B' H' → Dt B' d v → Q v H' := fun v B' H' d pd e2 k2 R2 dv =>
      k v B' H' d pd (e1.trans e2) (fun b hb => by rw [k2 b hb, k1 b hb]) (by rw [← Nat.add_assoc]; exact R2) dv
    cases b with
    | true => exact iteT (h1 B1 e1 pb (n + c0) F0 H0 F H1 Q (by omega) dj R1 fin)
    | false => exact iteF (h2 B1 e1 pb (n + c0) F0 H0 F H1 Q (by omega) dj R1 fin)
/-- s.join(drawn) -/
theorem es_join {a : Str} (h : ∀ n B', Ex B B' → Ev (St s t n) ta σ B' (.str a)) (h2 : EvS s t c tb σ B P1) (hp : ∀ d, P1 d → ∃ ys : List Str, sq d = some (ys.map D.str) ∧ (ys.map (·.length)).sum + ys.length * a.length ≤ 16777216 ∧ P (.str (Txt.join a ys))) :
    EvS s t c (tM1 (fun x xs H Q => ∃ a p, ∃ ys : List Str, x = .str a ∧ xs = [.ref p] ∧ (SqL K H p (ys.map V.str) ∨ SqT K H p (ys.map V.str)) ∧ (ys.map (·.length)).sum + ys.length * a.length ≤ 16777216 ∧ Q (.str (Txt.join a ys)) H) ta tb) σ B P := fun n F0 H0 F H Q hc dj R k =>
  h n B (Ex.refl _) F H _ R.w fun x H1 g1 ex => by
    have ex : x = .str a := ex
    subst ex
    have e0 := R.ext g1
    refine ⟨⟨a, rfl⟩, ?_⟩
    have R1 := R.step g1
    have R1' : Rn (St s t n) F0 H0 F B H1 := ⟨R1.w.up e0, R.e0, R1.s, R1.x⟩
    refine h2 n F0 H0 F H1 _ hc dj R1' fun y B2 H2 d pd e2 k2 R2 dy => ?_
    obtain ⟨ys, hs, hz, pp⟩ := hp d pd
    obtain ⟨p, vs, rfl, hpp, hv⟩ := sq_get hs (dy.mono R2.w.e.le)
    have ev := hv.strs
    subst ev
    exact ⟨a, p, ys, rfl, rfl, hpp.imp (fun z => SqL.of (hdL z)) (fun z => SqT.of (hdT z)), hz, k _ B2 H2 _ pp e2 (fun b hb => by rw [k2 b hb, g1.x b hb]) R2 (show V.str _ = V.str _ from rfl)⟩
/-- a slice of a drawn list -/
theorem es_slL {lo hi : Option Int} {tl th : TO} (h : EvS s t c te σ B P1) (hl : ∀ n B', Ex B B' → EvO (St s t n) tl σ B' lo) (hh : ∀ n B', Ex B B' → EvO (St s t n) th σ B' hi) (hp : ∀ d, P1 d → ∃ l, d = .lst l ∧ P (.lst (cutD l lo hi))) :
    EvS s t c (tSl (rSlL K) te tl th) σ B P := fun n F0 H0 F H Q hc dj R k =>
  h n F0 H0 F H _ hc dj R fun v B1 H1 d pd e1 k1 R1 dv => by
    refine hl _ B1 e1 F H1 _ R1.w fun H2 g2 => ?_
    have R2 := R1.step g2
    refine hh _ _ (e1.trans (R1.ext g2)) F H2 _ R2.w fun H3 g3 => ?_
    have R3 := R2.step g3
    obtain ⟨l, rfl, pl⟩ := hp d pd
    have e13 := (R1.ext g2).trans (R2.ext g3)
    obtain ⟨a, vs, rfl, ha, hv⟩ := lst_inv ((dv.mono e13.le).mono R3.w.e.le)
    refine ⟨a, vs, rfl, SqL.of (hdL ha), fun q hq => ?_⟩
    have g4 := R3.w.new hq (.lst (cutV vs lo hi))
    exact k _ _ _ _ pl ((e1.trans e13).trans (R3.ext g4)) (fun b hb => by rw [g4.x b hb, g3.x b hb, g2.x b hb, k1 b hb]) (R3.step g4) (lst_mk (hd_some.mpr ⟨R3.w.nS (Fr.of hq), upd_same⟩) ((dtl_cut hv).mono g4.le))
/-! walks -/
theorem esi_ei {ys : List D} (h : EvI M0 wi σ B ys) : EvSI s t 0 wi σ B (fun l => l = ys) := fun n F0 H0 F H R' hc dj R k =>
  h _ H _ (wdS R.w) fun J H1 g1 wk => by
    have g1' := go_app R.w g1
    refine k J ys _ H1 rfl (R.ext g1') (fun b hb => g1'.x b hb) (R.step g1') ?_
    have eb : Hd M0 ((St s t n).S ++ F) H1 = Hd (St s t n) F H1 := hd_app
    rw [← eb]; exact wk
theorem esi_rng1 {PI : List D → Prop} (h : EvSA s t c tr σ B PA) (hp : ∀ ds, PA ds → ∃ k : Int, ds = [.int k] ∧ -(2 ^ 62) ≤ k ∧ k < 2 ^ 62 ∧ PI (rangeD 0 k.toNat)) : EvSI s t c (iRng1 tr) σ B PI := fun n F0 H0 F H R' hc dj R k =>
  h n F0 H0 F H _ hc dj R fun vs B1 H1 ds pd e1 k1 R1 dv => by
    obtain ⟨i, rfl, h1, h2, pi⟩ := hp ds pd
    obtain ⟨v, rfl, ev⟩ := one_inv dv
    have ev : v = .int i := ev
    subst ev
    exact ⟨i, rfl, h1, h2, k _ _ B1 H1 pi e1 k1 R1 ⟨_, _, by rw [rangeD_length]; exact walk_range, fun _ _ _ => True.intro, fun F' i H' x H2 hi W' y => by
      obtain ⟨rfl, rfl⟩ := y
      rw [rangeD_length] at hi
      exact ⟨Go.refl W'.i, .int (0 + (i : Nat)), by simp [rangeD, hi], rfl⟩⟩⟩
theorem esi_list {PI : List D → Prop} (h : EvS s t c te σ B P) (hp : ∀ d, P d → ∃ l, d = .lst l ∧ PI l) : EvSI s t c (iList K te) σ B PI := fun n F0 H0 F H R' hc dj R k =>
  h n F0 H0 F H _ hc dj R fun v B1 H1 d pd e1 k1 R1 dv => by
    obtain ⟨l, rfl, pl⟩ := hp d pd
    obtain ⟨a, vs, rfl, ha, hl⟩ := lst_inv dv
    have ha' : Hd (St s t (n + c)) F H1 a = some (.lst vs) := R1.w.e a _ ha rfl
    exact ⟨a, rfl, ⟨vs, SqL.of (hdL ha')⟩, k _ l B1 H1 pl e1 k1 R1 ⟨_, _, by rw [← hl.length]; exact walk_list (xs := vs), fun F' H' W' => SqL.of (hdL (W'.e a _ ha rfl)), fun F' i H' x H2 hi W' y => by
      obtain ⟨rfl, y⟩ := y
      obtain ⟨d, h1, h2⟩ := hl.get y
      exact ⟨Go.refl W'.i, d, h1, h2.mono W'.e.le⟩⟩⟩
end
end DL

/-! DLS4: comprehensions, loops and statements that draw. -/
namespace DL
open PySem PySem.Spec PyProof.Rows L2
section
variable {s t : Addr} {n m c c0 c1 c2 : Nat} {F0 F G : List Addr} {H0 H H' B B' : Hp} {p : Addr} {d d1 d2 d3 : D} {σ : L2.St} {te ta tb tc tk tv : TE} {tt tw : TT} {tr : TA} {De : Ends} {tz tu tx : TS} {K : PySem.W.Frag} {g : TG} {wi : TI} {P P1 P2 P3 : D → Prop} {PA PI : List D → Prop} {PB PB2 : Bool → Prop}
/-- a walk whose source may draw, from where its iterator stands -/
theorem goT {F : List Addr} {H1 H2 H3 : Hp} {J : It} {ys : List D} {Y : Nat → Hp → V → Hp → Prop} {i : Nat} {x : V} (R2 : Rn (St s t n) F0 H0 F B H2) (g3 : Go M0 ((St s t n).S ++ F) H2 H3) (dx : Dt (Hd M0 ((St s t n).S ++ F) H3) d x) : Go (St s t n) F H2 H3 ∧ Dt (Hd (St s t n) F H3) d x := by
  refine ⟨go_app R2.w g3, ?_⟩
  have := dx
  rw [hd_app (M := St s t n)] at this
  exact this
/-- a comprehension whose elements draw, a name as its target -/
theorem es_lc {vs : List Nat} {j : Nat} {PE : List D → D → D → Prop} (hi : EvSI s t c0 wi σ B PI) (hlen : ∀ ys, PI ys → ys.length ≤ m) (hm : m < sizeLine) (hw : ∀ x, wipe ((wipe σ vs).set j (some x)) vs = wipe σ vs)
    (hg : ∀ ys, PI ys → ∀ d ∈ ys, ∀ B' x, Ex B B' → Dt B' d x → EvS s t c te ((wipe σ vs).set j (some x)) B' (PE ys d)) :
    EvS s t (c0 + c * m) (tLc wi (gName j) tYes te vs) σ B (fun r => ∃ ys ds, PI ys ∧ r = .lst ds ∧ ds.length = ys.length ∧ ∀ (i : Nat) a b, ys[i]? = some a → ds[i]? = some b → PE ys a b) := fun n F0 H0 F H Q hc dj R kq =>
  hi n F0 H0 F H _ (by omega) dj R fun J ys B1 H1 pi e1 k1 R1 wk => by
    obtain ⟨G, Y, w, hG, hY⟩ := wk.ex
    intro Dl hD
    have hl := hlen ys pi
    have hcm : c * ys.length ≤ c * m := Nat.mul_le_mul_left _ hl
    have nD := R1.w.nS (Fr.of hD)
    have nDs : Dl ≠ s := fun z => nD.1 (by rw [z]; simp [St])
    have nDt : Dl ≠ t := fun z => nD.1 (by rw [z]; simp [St])
    have nD0 : Dl ∉ F0 := fun z => nD.2 (R.s _ z)
    have dj' : Dj s t (Dl :: F) := ⟨fun z => (List.mem_cons.mp z).elim (fun z => nDs z.symm) dj.1, fun z => (List.mem_cons.mp z).elim (fun z => nDt z.symm) dj.2⟩
    refine lc_it w (fun i H' => ∃ B' acc ds, Ex B1 B' ∧ (∀ b ∈ F, H' b = H1 b) ∧ Rn (St s t (n + c0 + c * i)) F0 H0 (Dl :: F) B' H' ∧ H' Dl = some (.lst acc) ∧ DtL B' ds acc ∧ ds.length = i ∧ ∀ (j : Nat) a b, ys[j]? = some a → ds[j]? = some b → PE ys a b) ?_ ?_ ?_ ?_
    · obtain ⟨R2, x2, _, _⟩ := R1.own (R1.w.new hD (.lst [])) (Fr.of hD) upd_same rfl
      exact ⟨_, [], [], x2, fun b hb => upd_ne (fun z => nD.2 (by rw [← z]; exact hb)), R2, upd_same, DtL.nil, rfl, fun j a b _ h => by simp at h⟩
    · rintro i H' _ ⟨B', acc, ds, e, _, R', _⟩
      exact hG _ H' ⟨e.trans (wdS R'.w).e, True.intro, (wdS R'.w).f⟩
    · rintro i x H2 H3 hlt ⟨B', acc, ds, e, hF, R', hacc, hds, hlen, hP⟩ y
      have W' : Wd M0 ((St s t (n + c0 + c * i)).S ++ (Dl :: F)) B1 H2 := ⟨e.trans (wdS R'.w).e, True.intro, (wdS R'.w).f⟩
      obtain ⟨g3, d, hd', dx⟩ := hY _ i H2 x H3 hlt W' y
      obtain ⟨g3', dx'⟩ := goT (J := J) (ys := ys) (Y := Y) (i := i) (H1 := H1) R' g3 dx
      have R3 := R'.step g3'
      have ex3 := R'.ext g3'
      have hci : c * (i + 1) ≤ c * ys.length := Nat.mul_le_mul_left _ hlt
      have hci' : c * i + c = c * (i + 1) := by rw [Nat.mul_add, Nat.mul_one]
      refine ⟨hw x, ?_⟩
      dsimp only [tYes]
      rw [if_pos rfl]
      refine hg ys pi d (List.mem_of_getElem? hd') _ x (((e1.trans e).trans ex3)) dx' (n + c0 + c * i) F0 H0 (Dl :: F) H3 _ (by omega) dj' R3 fun v B4 H4 d' pd e4 k4 R4 dv => ?_
      have hacc4 : H4 Dl = some (.lst acc) := by rw [k4 Dl List.mem_cons_self, g3'.x Dl List.mem_cons_self]; exact hacc
      have R5 : Rn (St s t (n + c0 + c * (i + 1))) F0 H0 (Dl :: F) B4 H4 := R4.upS (by omega)
      refine ⟨acc, hacc4, by rw [hds.length, hlen]; omega, B4, acc ++ [v], ds ++ [d'], ((e.trans ex3).trans e4), fun b hb => ?_, R5.put List.mem_cons_self nD.1 nD0 rfl, upd_same, DtL.append ((hds.mono ex3.le).mono e4.le) (DtL.cons dv DtL.nil), by rw [List.length_append, hlen]; rfl, fun j a b ha hb => ?_⟩
      · rw [upd_ne (fun z => nD.2 (by rw [← z]; exact hb)), k4 b (List.mem_cons_of_mem _ hb), g3'.x b (List.mem_cons_of_mem _ hb), hF b hb]
      · by_cases z : j < ds.length
        · rw [List.getElem?_append_left z] at hb
          exact hP j a b ha hb
        · rw [List.getElem?_append_right (by omega)] at hb
          have hj : j = i := by
            have := (List.getElem?_eq_some_iff.mp hb).1
            simp at this
            omega
          subst hj
          rw [hd'] at ha
          cases ha
          rw [hlen] at hb
          simp at hb
          subst hb
          exact pd
    · rintro H' ⟨B', acc, ds, e, hF, R', hacc, hds, hlen, hP⟩
      obtain ⟨R6, e6⟩ := R'.tell nD0
      have R7 : Rn (St s t (n + (c0 + c * m))) F0 H0 F _ H' := R6.upS (by omega)
      exact kq _ _ H' (.lst ds) ⟨ys, ds, pi, rfl, hlen, hP⟩ ((e1.trans e).trans e6) (fun b hb => by rw [hF b hb, k1 b hb]) R7 (lst_mk (hd_some.mpr ⟨⟨nD.1, nD.2⟩, hacc⟩) (hds.mono e6.le))
/-! statements -/
theorem r_setS {i : Nat} (h : EvS s t c te σ B P) (R : Rn (St s t n) F0 H0 F B H) (dj : Dj s t F) (hc : n + c ≤ 2 ^ 40)
    (k : ∀ v B' H' d, P d → Ex B B' → (∀ b ∈ F, H' b = H b) → Rn (St s t (n + c)) F0 H0 F B' H' → Dt B' d v → tz De (σ.set i (some v)) H') : tSeq (tAsg te (gName i)) tz De σ H := h n F0 H0 F H _ hc dj R k
theorem r_ifS (h : EvST s t c tt σ B PB) (R : Rn (St s t n) F0 H0 F B H) (dj : Dj s t F) (hc : n + c ≤ 2 ^ 40)
    (h1 : PB true → ∀ B' H', Ex B B' → (∀ b ∈ F, H' b = H b) → Rn (St s t (n + c)) F0 H0 F B' H' → tu { De with nx := tz De } σ H')
    (h2 : PB false → ∀ B' H', Ex B B' → (∀ b ∈ F, H' b = H b) → Rn (St s t (n + c)) F0 H0 F B' H' → tx { De with nx := tz De } σ H') : tSeq (tIfS tt tu tx) tz De σ H :=
  h n F0 H0 F H _ hc dj R fun b B' H' pb e kk R => by
    cases b with
    | true => exact iteT (h1 pb B' H' e kk R)
    | false => exact iteF (h2 pb B' H' e kk R)
theorem r_retS (h : EvS s t c te σ B P) (R : Rn (St s t n) F0 H0 F B H) (dj : Dj s t F) (hc : n + c ≤ 2 ^ 40) (k : ∀ v H' d, P d → Go (St s t (n + c)) F0 H0 H' → Dt (Hd (St s t (n + c)) F0 H') d v → De.rt v H') : tRet te De σ H :=
  h n F0 H0 F H _ hc dj R fun v B' H' d pd _ _ R1 dv => k v H' d pd ⟨(R1.e0.trans R1.w.e).trans (hd_sub R1.s), R1.x, R1.w.i⟩ (R1.dt dv)
/-- xs.append(drawn), xs ours -/
theorem r_appS {i : Nat} {vs : List V} (h : EvS s t c te σ B P) (R : Rn (St s t n) F0 H0 F B H) (dj : Dj s t F) (hc : n + c ≤ 2 ^ 40) (hp : p ∈ F) (h0 : p ∉ F0) (hi : σ[i]? = some (some (.ref p))) (hv : H p = some (.lst vs)) (hz : vs.length < sizeLine)
    (k : ∀ v B' H' d, P d → Ex B B' → Rn (St s t (n + c)) F0 H0 F B' (upd H' p (.lst (vs ++ [v]))) → (∀ b ∈ F, b ≠ p → H' b = H b) → Dt B' d v → De.nx σ (upd H' p (.lst (vs ++ [v])))) : tDrop (tBM K "list" rAppend (tVar i) (tCons te tNil)) De σ H :=
  ⟨_, hi, .inl ⟨rfl, vs, SqL.of hv⟩, h n F0 H0 F H (fun x H1 => tNil σ H1 fun xs H2 => rAppend (.ref p) (x :: xs) H2 fun _ H3 => De.nx σ H3) hc dj R fun v B' H' d pd e kk R1 dv =>
    ⟨p, vs, v, rfl, rfl, by rw [kk p hp]; exact hv, hz, k v B' H' d pd e (R1.put hp (fun z => by
      rcases List.mem_cons.mp z with z | z
      · exact dj.1 (by rw [← z]; exact hp)
      · rw [List.mem_singleton] at z; exact dj.2 (by rw [← z]; exact hp)) h0 rfl) (fun b hb _ => kk b hb) dv⟩⟩
/-- a loop whose source may draw -/
theorem r_forSI1 (hi : EvSI s t c wi σ B PI) (R : Rn (St s t n) F0 H0 F B H) (dj : Dj s t F) (hc : n + c ≤ 2 ^ 40) (Iv : List D → Nat → L2.St → Hp → Hp → Prop) (hR : ∀ ys i σ B H, Iv ys i σ B H → ∃ n, Rn (St s t n) F0 H0 F B H)
    (h0 : ∀ ys B' H', PI ys → Ex B B' → (∀ b ∈ F, H' b = H b) → Rn (St s t (n + c)) F0 H0 F B' H' → Iv ys 0 σ B' H')
    (hs : ∀ ys i d x σ' Bb B1 H1 B2 H2, PI ys → Ex B Bb → Ex Bb B1 → ys[i]? = some d → Iv ys i σ' B1 H1 → Ex B1 B2 → (∀ b ∈ F, H2 b = H1 b) → (∀ n, Rn (St s t n) F0 H0 F B1 H1 → Rn (St s t n) F0 H0 F B2 H2) → Dt B2 d x →
      g x σ' H2 fun σ2 H3 => tu { De with nx := Lp (Iv ys) Bb (i + 1), ct := Lp (Iv ys) Bb (i + 1), bk := De.nx } σ2 H3)
    (hd : ∀ ys σ' B' H', PI ys → Ex B B' → Iv ys ys.length σ' B' H' → De.nx σ' H') : tFor wi g tu De σ H :=
  hi n F0 H0 F H _ hc dj R fun J ys B1 H1 pi e1 k1 R1 wk => by
    obtain ⟨G, Y, w, hG, hY⟩ := wk.ex
    refine for_it w (Lp (Iv ys) B1) ⟨_, Ex.refl _, h0 ys _ H1 pi e1 k1 R1⟩ ?_ ?_ ?_
    · rintro i σ' H' _ ⟨B', e, q⟩
      obtain ⟨n', R'⟩ := hR _ _ _ _ _ q
      exact hG _ H' ⟨e.trans (wdS R'.w).e, True.intro, (wdS R'.w).f⟩
    · rintro i x σ' H2 H3 hlt ⟨B', e, q⟩ y
      obtain ⟨n', R'⟩ := hR _ _ _ _ _ q
      have W' : Wd M0 ((St s t n').S ++ F) B1 H2 := ⟨e.trans (wdS R'.w).e, True.intro, (wdS R'.w).f⟩
      obtain ⟨g3, d, hd', dx⟩ := hY _ i H2 x H3 hlt W' y
      obtain ⟨g3', dx'⟩ := goT (J := J) (ys := ys) (Y := Y) (i := i) (H1 := H1) R' g3 dx
      exact hs ys i d x σ' _ B' H2 _ H3 pi e1 e hd' q (R'.ext g3') (fun b hb => g3'.x b hb) (fun n2 R2 => R2.step (go_app R2.w g3)) dx'
    · rintro σ' H' ⟨B', e, q⟩
      exact hd ys σ' B' H' pi (e1.trans e) q
theorem r_forSI (hi : EvSI s t c wi σ B PI) (R : Rn (St s t n) F0 H0 F B H) (dj : Dj s t F) (hc : n + c ≤ 2 ^ 40) (Iv : List D → Nat → L2.St → Hp → Hp → Prop) (hR : ∀ ys i σ B H, Iv ys i σ B H → ∃ n, Rn (St s t n) F0 H0 F B H)
    (h0 : ∀ ys B' H', PI ys → Ex B B' → (∀ b ∈ F, H' b = H b) → Rn (St s t (n + c)) F0 H0 F B' H' → Iv ys 0 σ B' H')
    (hs : ∀ ys i d x σ' Bb B1 H1 B2 H2, PI ys → Ex B Bb → Ex Bb B1 → ys[i]? = some d → Iv ys i σ' B1 H1 → Ex B1 B2 → (∀ b ∈ F, H2 b = H1 b) → (∀ n, Rn (St s t n) F0 H0 F B1 H1 → Rn (St s t n) F0 H0 F B2 H2) → Dt B2 d x →
      g x σ' H2 fun σ2 H3 => tu { De with nx := Lp (Iv ys) Bb (i + 1), ct := Lp (Iv ys) Bb (i + 1), bk := tz De } σ2 H3)
    (hd : ∀ ys σ' B' H', PI ys → Ex B B' → Iv ys ys.length σ' B' H' → tz De σ' H') : tSeq (tFor wi g tu) tz De σ H :=
  r_forSI1 (De := { De with nx := tz De }) hi R dj hc Iv hR h0 hs hd
end
end DL

namespace Pg
open PySem PySem.Spec PyProof.Rows L2 DL RX RZ LiI
/-! ### list(d.items()), d perhaps locked -/
def rItemsR : L2.V → Hp → VK → Prop := fun x H Q => ∃ (d : Addr) (kvs : List (L2.Key × L2.V)), x = .ref d ∧ Rd H d (.dK kvs) ∧
  ∀ (H' : Hp) (p : Addr) (ts : List Addr), (∀ b o, H b = some o → H' b = some o) → H p = none → (∀ t ∈ ts, H t = none) → p ∉ ts → H' p = some (.lst (ts.map L2.V.ref)) → Paired (fun (t : Addr) (q : L2.Key × L2.V) => H' t = some (.tup [kV q.1, q.2])) ts kvs → Q (.ref p) H'
def tItemsR (te : TE) : TE := fun σ H Q => te σ H fun x H1 => rItemsR x H1 Q
section
variable {X : Cx} {e : Expr} {te : TE} {p apos cpos pos : Pos}
theorem pe_itemsR (hc : X.calm = true) (he : PE X e te) (hg : Gl X "list") (hm : X.mg "list" = none) (hv : bootBuiltins "list" = some (.type "list")) (hbase : attributeBase e "items" X.env (eval e X.env) = eval e X.env := by rfl) (hline : (apos.endLine == cpos.line) = true := by rfl)
    (hs : starEach [.Call (.Attribute e "items" apos) [] [] cpos] X.env = (false, eval (.Call (.Attribute e "items" apos) [] [] cpos) X.env) :: starEach [] X.env := by rfl) :
    PE X (.Call (.Name "list" p) [.Call (.Attribute e "items" apos) [] [] cpos] [] pos) (tItemsR te) := ⟨fun pins s σ H Q I hq =>
  wpAny_Call_Name_kw (ld_blt I hg hm hv (PyProof.Rows.callWith_type1 (by
    rw [hs]
    refine Calls.spliced_cons (wpAny_Call_method (T := "dict") (id := "dict.items") hbase rfl hline PySem.F.plainAttrs_dict PySem.F.slot_dict_items PySem.F.type_dict_items (thn (he.run pins s σ H _ I hq) fun u s1 ⟨x, H1, I1, rx, d, kvs, ex, hd, q⟩ => ?_))
    subst ex
    have eu : u = Value.ref d := rx
    subst eu
    obtain ⟨hz, hs0, vs, kv, hdo⟩ := dk_rd I1.hok hd
    obtain ⟨ep, hat⟩ := hdo.dictAt
    have lk : kvs.length = vs.length := Paired.length kv
    have I2 : Inv X pins σ H1 { s1 with heap := s1.heap.push { cls := .type "dict_items", data := .fields #[.ref d] } } := I1.kept (t' := s1.toks) fun b ob q => Heap.get?_push_of_some _ q
    refine ⟨hdo.typeIs, hdo.mapOf.noDict, method_meetsIn PySem.F.slot_dict_items PySem.F.entry_dict_items rfl (PySem.evalArgs_none ⟨rfl, hdo.typeIs, PySem.F.args_dict_items_1 _, _, meets_dict_items (mixKind X.prog X.w) d hs0, ⟨vs, hdo⟩, ?_⟩)⟩
    refine Calls.spliced_nil (PySem.W.kdx_call (knd := mixKind X.prog X.w) (kvs := vs) (ep := ep) (I1.ok.hd hc) ⟨_, Heap.get?_push_size _ rfl, rfl, rfl⟩ (hat.push _) (by omega) fun h' tk acc c as hk hS hl hG hacc => ?_)
    obtain ⟨H', k1, k2, k3, k4, k5, k6, J⟩ := items_laid (tk := tk) I2 hz kv hk hS hl hG hacc
    exact ⟨.ref _, H', J, rfl, q H' _ as k1 k2 k3 k4 k5 k6⟩) hs rfl))⟩
end
section
variable {P : Program} {w : World} {K : PySem.W.Frag} {mg : Str → Option Value} {base : Heap} {f C : Addr} {fd : FuncData} {M : Md} {σ : L2.St} {B : Hp} {te : TE} {V : Vl} {d : D}
theorem items_dt {Hv : Hp} : ∀ {ts : List Addr} {es : List (L2.Key × L2.V)} {ds : List D}, Paired (fun (t : Addr) (q : L2.Key × L2.V) => Hv t = some (.tup [kV q.1, q.2])) ts es → DtL Hv ds (es.map (·.2)) → DtL Hv (itemsD (es.map (·.1)) ds) (ts.map L2.V.ref)
  | _, _, ds, .nil, h => by cases ds <;> first | exact DtL.nil | (obtain ⟨v, r, e, _⟩ := DtL.cons_inv h; cases e)
  | _, _, ds, .cons (a := t) (b := q) a b, h => by
    cases ds with
    | nil => exact absurd (DtL.nil_inv h) (by simp)
    | cons d ds =>
      obtain ⟨v, r, e, hd, hr⟩ := DtL.cons_inv h
      rw [List.map_cons] at e
      injection e with e1 e2
      subst e1; subst e2
      exact DtL.cons (tup_mk a (DtL.cons (kD_dt q.1) (DtL.cons hd DtL.nil))) (items_dt b hr)
theorem paired_mem {α β : Type} {F G : α → β → Prop} : ∀ {l : List α} {m : List β}, Paired F l m → (∀ a b, a ∈ l → F a b → G a b) → Paired G l m
  | _, _, .nil, _ => .nil
  | _, _, .cons a b, h => .cons (h _ _ List.mem_cons_self a) (paired_mem b fun x y hx => h x y (List.mem_cons_of_mem _ hx))
theorem ef_itemsR {ks : List L2.Key} {ds : List D} (h : Ev M te σ B (.dic ks ds)) : EvF M (tItemsR te) σ B (itemsD ks ds) := fun F H Q W k => h F H _ W fun v H1 g1 e => by
  obtain ⟨a, es, rfl, hr, hk, hl⟩ := dic_inv e
  refine ⟨a, es, rfl, hdR hr, fun H' p ts ext hp hts hpt hlist hpair => ?_⟩
  have W1 := W.go g1
  have g2 : Go M F H1 H' := W1.pure (fun b o q _ => ext b o q)
  subst hk
  refine k p _ H' (W.back g1 (Fr.of hp)) (g1.trans g2) hlist (items_dt (paired_mem hpair fun t q ht z => ?_) (hl.mono (g2.e.hide (Fr.of hp)).le))
  have n := W1.nS (Fr.of (hts t ht))
  exact hd_some.mpr ⟨⟨n.1, fun z => (List.mem_cons.mp z).elim (fun z => hpt (by rw [← z]; exact ht)) n.2⟩, z⟩
/-! ### _law_same, of the same datum -/
def SmOk : Nat → D → Prop
  | 0, _ => False
  | k + 1, x => isVilD x = false ∧ (∀ l, sq x = some l → l.length ≤ 100 ∧ ∀ a ∈ l, SmOk k a) ∧ ∀ ks l, x = .dic ks l → SmOk k (.lst (itemsD ks l))
abbrev Sp_same (k : Nat) := SpQ (α := D) (fun x => [x, x]) (fun x => SmOk k x) fun _ => .bl true
abbrev N_same : List Str := ["found", "due", "mine", "theirs"]
theorem okV_no {C : Addr} (h : isVilD d = false) : okV C d := by cases d <;> first | trivial | (cases h)
theorem zip_self : ∀ l : List D, zipD l l = l.map fun a => D.tup [a, a]
  | [] => rfl
  | a :: l => by
    have := zip_self l
    unfold zipD at this ⊢
    rw [List.zip_cons_cons, List.map_cons, this, List.map_cons]
theorem kit_three (h : (fl d).isSome = true) : PySem.W.kitAny K (tyD d) [.type "list", .type "tuple", .type "dict"] = some false := by
  cases d <;> first | (cases h; done) | exact kitAny_cons (b := false) (kit_ty (by decide +kernel)) (fun z => kitAny_cons (b := false) (kit_ty (by decide +kernel)) (fun z => kitAny_cons (b := false) (kit_ty (by decide +kernel)) (fun z => kitAny_nil) (fun z => by cases z)) (fun z => by cases z)) (fun z => by cases z)
theorem ev_isi3 (v : VF K C) (hv : okV C d) (h : (fl d).isSome = true) (e : Ev M te σ B d) : Ev M (tCB (rIsiT K) (tCons te (tCons (tTup (tCons (tC (.ty "list")) (tCons (tC (.ty "tuple")) (tCons (tC (.ty "dict")) tNil)))) tNil))) σ B (.bl false) := fun F H Q W k => e F H _ W fun x H1 g e =>
  ⟨by show 3 ≤ sizeLine; decide, fun p hp => ⟨x, p, [.ty "list", .ty "tuple", .ty "dict"], tyD d, [.type "list", .type "tuple", .type "dict"], false, rfl, upd_same, .cons (.ty "list") (.cons (.ty "tuple") (.cons (.ty "dict") .nil)), tyX_of (hv.ok v) ((e.mono hd_le).mono (ex_new hp).le), kit_three h, k _ _ (g.trans ((W.go g).new hp _)) rfl⟩⟩
theorem ok_same (F : Fun K "_law_same" "_law_same" s_law_same f fd) (N : Bn mg) (v : VF K C) (g2 : mg "_law_same" = some (.ref f)) (b2 : Binds K fd ["found", "due"] []) (kp : PySem.W.keepIn K (.ref f) = true) : ∀ k, FnOk P w K mg base CX0 (k + 1) f fd ["found", "due"] (Sp_same k)
  | 0 => F.ok sc_law_same (SpQ.len fun _ => rfl) (fun cdv A outer s H vs Q E hr h => by
    obtain ⟨F0, d, tr, hd, p1, kk⟩ := h
    exact (show False from p1).elim)
  | k + 1 => by
    have O2 : OkF P w K mg base (k + 1) f ["found", "due"] (Sp_same k) := ⟨⟨fd, ok_same F N v g2 b2 kp k, b2⟩, kp⟩
    refine F.ok sc_law_same (SpQ.len fun _ => rfl) (fun cdv A outer s H vs Q E hr h => ?_)
    obtain ⟨F0, d, tr, hd, ⟨p1, p2, p3⟩, kk⟩ := h
    obtain ⟨x, y, rfl, hx, hy⟩ := two_inv hd
    have h101 : (101 : Nat) ≤ sizeLine := by decide
    refine ⟨_, pss_cons (ps_if (pt_val (pe_callB call_isiT (by rfl) N.isinstance (by decide +kernel) (pa_cons (pv 1) (pa_cons (pe_tup (pa_cons (pe_bltn (v := .ty "list") (by rfl) N.list (by decide +kernel) rfl) (pa_cons (pe_bltn (v := .ty "tuple") (by rfl) N.tuple (by decide +kernel) rfl) pa_nil))) pa_nil))))
        (pss_cons (ps_if (pw_or (pt_cmpR op_ne (pe_callB call_isi (by rfl) N.isinstance (by decide +kernel) (pa_cons (pv 0) (pa_cons (pe_bltn (v := .ty "list") (by rfl) N.list (by decide +kernel) rfl) pa_nil))) (pe_callB call_isi (by rfl) N.isinstance (by decide +kernel) (pa_cons (pv 1) (pa_cons (pe_bltn (v := .ty "list") (by rfl) N.list (by decide +kernel) rfl) pa_nil))) (nomark _)) (pw_or1 (pt_cmpR op_ne (pe_callB call_isi (by rfl) N.isinstance (by decide +kernel) (pa_cons (pv 0) (pa_cons (pe_bltn (v := .ty "tuple") (by rfl) N.tuple (by decide +kernel) rfl) pa_nil))) (pe_callB call_isi (by rfl) N.isinstance (by decide +kernel) (pa_cons (pv 1) (pa_cons (pe_bltn (v := .ty "tuple") (by rfl) N.tuple (by decide +kernel) rfl) pa_nil))) (nomark _)))).pt (pss_one (ps_ret pe_bl)) pss_nil)
        (pss_one (ps_ret (pe_and (pe_cmpR op_eq (pe_callB call_len_seq (by rfl) N.len PySem.boot_len (pa_cons (pv 0) pa_nil)) (pe_callB call_len_seq (by rfl) N.len PySem.boot_len (pa_cons (pv 1) pa_nil)) (nomark _)) (pe_one (pe_callB (cr_all rfl) (by rfl) N.all (by decide +kernel) (pa_cons (pe_lc (own := [("mine", 2), ("theirs", 3)]) (g := gTup K 2 (gCons (gName 2) (gCons (gName 3) gNil))) (by rfl) sc_law_same.nd (pi_zipA (by rfl) N.zip (pa_cons (pv 0) (pa_cons (pv 1) pa_nil))) (blkOk_by (own := [("mine", 2), ("theirs", 3)]) (N := N_same) (sc := defScope s_law_same) (by decide +kernel)) (fun _ _ _ _ _ => by exact pg_tup (by rfl) (pgs_cons (pg_name (i := 2) sc_law_same.nd rfl (Or.inl rfl)) (pgs_cons (pg_name (i := 3) sc_law_same.nd rfl (Or.inl rfl)) pgs_nil))) (fun _ _ _ _ _ => pts_nil) (fun _ _ _ _ _ => (pe_c O2 hr g2 (pa_cons (pv 2) (pa_cons (pv 3) pa_nil))))) pa_nil))))))) pss_nil)
      (pss_cons (ps_if (pt_val (pe_callB call_isi (by rfl) N.isinstance (by decide +kernel) (pa_cons (pv 1) (pa_cons (pe_bltn (v := .ty "dict") (by rfl) N.dict (by decide +kernel) rfl) pa_nil))))
        (pss_one (ps_ret (pe_and (pe_callB call_isi (by rfl) N.isinstance (by decide +kernel) (pa_cons (pv 0) (pa_cons (pe_bltn (v := .ty "dict") (by rfl) N.dict (by decide +kernel) rfl) pa_nil))) (pe_one (pe_c O2 hr g2 (pa_cons (pe_itemsR rfl (pv 0) (by rfl) N.list (by decide +kernel)) (pa_cons (pe_itemsR rfl (pv 1) (by rfl) N.list (by decide +kernel)) pa_nil))))))) pss_nil)
      (pss_cons (ps_if (pw_or (pt_val (pe_callB call_isi (by rfl) N.isinstance (by decide +kernel) (pa_cons (pv 1) (pa_cons (pe_bltn (v := .ty "bool") (by rfl) N.bool (by decide +kernel) rfl) pa_nil)))) (pw_or1 (pt_val (pe_callB call_isi (by rfl) N.isinstance (by decide +kernel) (pa_cons (pv 0) (pa_cons (pe_bltn (v := .ty "bool") (by rfl) N.bool (by decide +kernel) rfl) pa_nil)))))).pt
        (pss_one (ps_ret (pe_and (pe_callB call_isi (by rfl) N.isinstance (by decide +kernel) (pa_cons (pv 1) (pa_cons (pe_bltn (v := .ty "bool") (by rfl) N.bool (by decide +kernel) rfl) pa_nil))) (pe_and (pe_callB call_isi (by rfl) N.isinstance (by decide +kernel) (pa_cons (pv 0) (pa_cons (pe_bltn (v := .ty "bool") (by rfl) N.bool (by decide +kernel) rfl) pa_nil))) (pe_one (pe_cmpR op_eq (pv 0) (pv 1) (nomark _))))))) pss_nil)
      (pss_cons (ps_if (pw_or (pt_cmpR op_isN (pv 1) pe_non (nomark _)) (pw_or1 (pt_cmpR op_isN (pv 0) pe_non (nomark _)))).pt
        (pss_one (ps_ret (pe_and (pe_cmpR op_isN (pv 1) pe_non (nomark _)) (pe_one (pe_cmpR op_isN (pv 0) pe_non (nomark _)))))) pss_nil)
      (pss_cons (ps_if (pw_or (pt_cmpR op_ne (pe_callB call_isi (by rfl) N.isinstance (by decide +kernel) (pa_cons (pv 1) (pa_cons (pe_bltn (v := .ty "int") (by rfl) N.int (by decide +kernel) rfl) pa_nil))) (pe_callB call_isi (by rfl) N.isinstance (by decide +kernel) (pa_cons (pv 0) (pa_cons (pe_bltn (v := .ty "int") (by rfl) N.int (by decide +kernel) rfl) pa_nil))) (nomark _)) (pw_or1 (pt_cmpR op_ne (pe_callB call_isi (by rfl) N.isinstance (by decide +kernel) (pa_cons (pv 1) (pa_cons (pe_bltn (v := .ty "str") (by rfl) N.str (by decide +kernel) rfl) pa_nil))) (pe_callB call_isi (by rfl) N.isinstance (by decide +kernel) (pa_cons (pv 0) (pa_cons (pe_bltn (v := .ty "str") (by rfl) N.str (by decide +kernel) rfl) pa_nil))) (nomark _)))).pt (pss_one (ps_ret pe_bl)) pss_nil)
      (pss_one (ps_ret (pe_and (pe_not (pe_callB call_isiT (by rfl) N.isinstance (by decide +kernel) (pa_cons (pv 0) (pa_cons (pe_tup (pa_cons (pe_bltn (v := .ty "list") (by rfl) N.list (by decide +kernel) rfl) (pa_cons (pe_bltn (v := .ty "tuple") (by rfl) N.tuple (by decide +kernel) rfl) (pa_cons (pe_bltn (v := .ty "dict") (by rfl) N.dict (by decide +kernel) rfl) pa_nil)))) pa_nil)))) (pe_one (pe_cmpR op_eq (pv 0) (pv 1) (nomark _)))))))))), ?_⟩
    have ok : okV C d := okV_no p1
    have neb : ∀ (b : Bool), (!decide (L2.V.bl b = L2.V.bl b)) = false := fun b => by simp
    have yes : ∀ (v : L2.V) (H2 : Hp), Go M0 F0 H H2 → Dt (Hd M0 F0 H2) (.bl true) v → Q v H2 := fun v H2 g2 h2 => kk v H2 g2 h2
    refine r_if (b := isListD d) (Rn.begin (wd0 tr)) (et_val (ev_list v ok (ev_var rfl hy))) (fun q B1 H1 e1 g1 R1 => ?_) (fun q B1 H1 e1 g1 R1 => ?_)
    · obtain ⟨l, hs, _⟩ := sq_of_list q
      obtain ⟨hl, hd'⟩ := p2 l hs
      have hx1 := hx.mono e1.le
      have hy1 := hy.mono e1.le
      refine r_if (b := false) R1 (et_is (et_or (a := false) (et_is (et_cmp (ev_op (ev_lst' v ok (ev_var rfl hx1)) (ev_lst' v ok (ev_var rfl hy1)) (rv_ne rfl rfl rfl))) (neb _)) fun _ => et_is (et_cmp (ev_op (ev_tup' v ok (ev_var rfl hx1)) (ev_tup' v ok (ev_var rfl hy1)) (rv_ne rfl rfl rfl))) (neb _)) rfl) (fun q => by cases q) (fun _ B2 H2 e2 g2' R2 => ?_)
      refine r_next ?_
      dsimp only
      have hx2 := hx1.mono e2.le
      have hy2 := hy1.mono e2.le
      refine r_ret (De := EQ Q) (d := .bl true) R2 (ev_is (ev_andV (a := true) (b := true) (ev_is (ev_op (ev_cb (ea_cons (ev_var rfl hx2) ea_nil) (rc_len hs)) (ev_cb (ea_cons (ev_var rfl hy2) ea_nil) (rc_len hs)) rv_eqI) (by simp)) fun _ => ?_) rfl) yes
      refine ev_is (ev_cb (ea_cons (EvF.ev (ef_is (ef_lcmA (ys := l) (en := fun a => D.tup [a, a]) (fun _ => .bl true) ?_ (by omega) fun a ha => ?_) (?_ : _ = (l.map fun _ => true).map D.bl))) ea_nil) (rc_all (bs := l.map fun _ => true))) ?_
      · rw [← zip_self]
        refine ei_zipA (d := d) (e := d) ?_ (ea_cons (ev_var rfl hx2) (ea_cons (ev_var rfl hy2) ea_nil))
        cases d <;> first | (cases hs; done) | (cases hs; exact .inl ⟨rfl, rfl⟩) | (cases hs; exact .inr ⟨rfl, rfl⟩)
      · exact turn_tg (tg_tup rfl (tgs_cons (tg_name fun B5 v5 e5 d5 => tgs_cons (tg_name fun B6 v6 e6 d6 => tgs_nil fun B7 e7 => ⟨rfl, et_yes, fun _ => ev_callQ (inp := fun x => [x, x]) (f := fun _ => .bl true) a (ea_cons (ev_var rfl ((d5.mono e6.le).mono e7.le)) (ea_cons (ev_var rfl (d6.mono e7.le)) ea_nil)) (hd' a ha)⟩))))
      · rw [List.map_map]; rfl
      · rw [List.all_map]; simp
    · refine r_next ?_
      dsimp only
      have hx1 := hx.mono e1.le
      have hy1 := hy.mono e1.le
      refine r_if (b := isDictD d) R1 (et_val (ev_dict' v ok (ev_var rfl hy1))) (fun q2 B2 H2 e2 g2' R2 => ?_) (fun q2 B2 H2 e2 g2' R2 => ?_)
      · cases d <;> first | (cases q2; done) | skip
        rename_i ks l
        refine r_ret (De := EQ Q) (d := .bl true) R2 (ev_is (ev_andV (a := true) (b := true) (ev_dict' v ok (ev_var rfl (hx1.mono e2.le))) fun _ => ?_) rfl) yes
        exact ev_callQ (inp := fun x => [x, x]) (f := fun _ => .bl true) (.lst (itemsD ks l)) (ea_cons (EvF.ev (ef_itemsR (ev_var rfl (hx1.mono e2.le)))) (ea_cons (EvF.ev (ef_itemsR (ev_var rfl (hy1.mono e2.le)))) ea_nil)) (p3 ks l rfl)
      · refine r_next ?_
        dsimp only
        have hx2 := hx1.mono e2.le
        have hy2 := hy1.mono e2.le
        have hfl : (fl d).isSome = true := by cases d <;> first | rfl | (cases q; done) | (cases q2; done) | (cases p1; done)
        obtain ⟨u, hu⟩ := Option.isSome_iff_exists.mp hfl
        have eqE : ∀ {B3 : Hp} {σ3 : L2.St}, Ev M0 (tVar 0) σ3 B3 d → Ev M0 (tVar 1) σ3 B3 d → Ev M0 (tOp rEq (tVar 0) (tVar 1)) σ3 B3 (.bl true) := fun a b => ev_is (ev_op a b (rv_eq hu hu (by cases d <;> first | (cases hu; rfl) | cases hu))) (by simp)
        refine r_if (b := isBoolD d || isBoolD d) R2 (et_or (et_val (ev_bool v ok (ev_var rfl hy2))) fun _ => et_val (ev_bool v ok (ev_var rfl hx2))) (fun q3 B3 H3 e3 g3 R3 => ?_) (fun q3 B3 H3 e3 g3 R3 => ?_)
        · have q3' : isBoolD d = true := by simpa using q3
          have hx3 := hx2.mono e3.le
          have hy3 := hy2.mono e3.le
          exact r_ret (De := EQ Q) (d := .bl true) R3 (ev_is (ev_andV (a := true) (b := true) (ev_is (ev_bool v ok (ev_var rfl hy3)) (by rw [q3'])) fun _ => ev_is (ev_andV (a := true) (b := true) (ev_is (ev_bool v ok (ev_var rfl hx3)) (by rw [q3'])) fun _ => eqE (ev_var rfl hx3) (ev_var rfl hy3)) rfl) rfl) yes
        · refine r_next ?_
          dsimp only
          have hx3 := hx2.mono e3.le
          have hy3 := hy2.mono e3.le
          refine r_if (b := isNon d || isNon d) R3 (et_or (et_cmp (ev_op (ev_var rfl hy3) ev_non rv_isN)) fun _ => et_cmp (ev_op (ev_var rfl hx3) ev_non rv_isN)) (fun q4 B4 H4 e4 g4 R4 => ?_) (fun q4 B4 H4 e4 g4 R4 => ?_)
          · have q4' : isNon d = true := by simpa using q4
            exact r_ret (De := EQ Q) (d := .bl true) R4 (ev_is (ev_andV (a := true) (b := true) (ev_is (ev_op (ev_var rfl (hy3.mono e4.le)) ev_non rv_isN) (by rw [q4'])) fun _ => ev_is (ev_op (ev_var rfl (hx3.mono e4.le)) ev_non rv_isN) (by rw [q4'])) rfl) yes
          · refine r_next ?_
            dsimp only
            have hx4 := hx3.mono e4.le
            have hy4 := hy3.mono e4.le
            refine r_if (b := false) R4 (et_is (et_or (a := false) (et_is (et_cmp (ev_op (ev_int' v ok (ev_var rfl hy4)) (ev_int' v ok (ev_var rfl hx4)) (rv_ne rfl rfl rfl))) (neb _)) fun _ => et_is (et_cmp (ev_op (ev_str' v ok (ev_var rfl hy4)) (ev_str' v ok (ev_var rfl hx4)) (rv_ne rfl rfl rfl))) (neb _)) rfl) (fun q => by cases q) (fun _ B5 H5 e5 g5 R5 => ?_)
            refine r_next ?_
            dsimp only
            have hx5 := hx4.mono e5.le
            have hy5 := hy4.mono e5.le
            exact r_ret (De := EQ Q) (d := .bl true) R5 (ev_is (ev_andV (a := true) (b := true) (ev_is (ev_notV (ev_isi3 v ok hfl (ev_var rfl hx5))) rfl) fun _ => eqE (ev_var rfl hx5) (ev_var rfl hy5)) rfl) yes
end
end Pg

namespace Pg
open PySem PySem.Spec PyProof.Rows L2 DL RX RZ LiI
/-! ### names, plain -/
theorem letters_at : ∀ n : Nat, n < 26 → atI letters.cps.toList ((n : Nat) : Int) = some (97 + n) := by decide +kernel
theorem letters_mem : ∀ n : Nat, n < 26 → 97 + n ∈ letters.cps.toList := by decide +kernel
theorem cut_three (s : Str) : (cutS s none (some 3)).cps.toList = s.cps.toList.take 3 := by
  unfold cutS
  show ((s.cps.toList.drop 0).take (HT.sIx s.length s.length (some 3) - 0)).toArray.toList = _
  have e : HT.sIx s.length s.length (some 3) = min 3 s.length := by
    show (min _ _) = _
    rfl
  rw [e, List.drop_zero, List.toList_toArray, Nat.sub_zero, ← str_len, ← List.take_take, List.take_length]
def nstep (z : Str) (n : Nat) : Str := cutS z none (some 3) ++ ⟨#[97]⟩ ++ ⟨#[97 + n]⟩
theorem nstep_l (z : Str) (n : Nat) : (nstep z n).cps.toList = z.cps.toList.take 3 ++ [97, 97 + n] := by
  unfold nstep
  show TL.tl (cutS z none (some 3) ++ ⟨#[97]⟩ ++ ⟨#[97 + n]⟩) = _
  rw [TL.tl_append, TL.tl_append]
  show (cutS z none (some 3)).cps.toList ++ [97] ++ [97 + n] = _
  rw [cut_three, List.append_assoc]; rfl
def cand (z : Str) : Nat → Str
  | 0 => z
  | j + 1 => nstep (cand z j) j
def nmOk (z : Str) : Prop := 1 ≤ z.length ∧ z.length ≤ 5 ∧ ∀ c ∈ z.cps.toList, c ∈ letters.cps.toList
theorem nm_name {z : Str} (h : nmOk z) : isName z = true := by
  unfold isName
  rw [Bool.and_eq_true, List.all_eq_true]
  exact ⟨decide_eq_true ⟨h.1, by have := h.2.1; omega⟩, fun c hc => decide_eq_true (h.2.2 c hc)⟩
theorem nm_step {z : Str} {n : Nat} (h : nmOk z) (hn : n < 26) : nmOk (nstep z n) := by
  have hl : (nstep z n).length = min 3 z.length + 2 := by
    rw [← str_len, nstep_l, List.length_append, List.length_take, str_len]; rfl
  refine ⟨by omega, by omega, fun c hc => ?_⟩
  rw [nstep_l] at hc
  rcases List.mem_append.mp hc with hc | hc
  · exact h.2.2 c (List.mem_of_mem_take hc)
  · rcases List.mem_cons.mp hc with rfl | hc
    · exact letters_mem 0 (by omega)
    · rw [List.mem_singleton] at hc
      subst hc
      exact letters_mem n hn
theorem cand_ok {z : Str} (h : nmOk z) : ∀ j, j ≤ 26 → nmOk (cand z j)
  | 0, _ => h
  | j + 1, hj => nm_step (cand_ok h j (by omega)) (by omega)
theorem cand_len {z : Str} (h1 : z.length ≤ 3) : ∀ j, z.length ≤ (cand z j).length ∧ z.length < (cand z (j + 1)).length
  | 0 => ⟨Nat.le_refl _, by
    show _ < (nstep z 0).length
    rw [← str_len (nstep z 0), nstep_l, List.length_append, List.length_take, str_len]
    show _ < min 3 z.length + 2
    omega⟩
  | j + 1 => ⟨Nat.le_of_lt (cand_len h1 j).2, by
    have := (cand_len h1 j).2
    show _ < (nstep (cand z (j + 1)) (j + 1)).length
    rw [← str_len (nstep _ _), nstep_l, List.length_append, List.length_take, str_len]
    show _ < min 3 (cand z (j + 1)).length + 2
    omega⟩
theorem cand_inj {z : Str} (h1 : z.length ≤ 3) : ∀ i j, i < j → cand z i ≠ cand z j
  | 0, j + 1, _ => fun e => by
    have := (cand_len h1 j).2
    rw [← e] at this
    exact Nat.lt_irrefl _ this
  | i + 1, j + 1, h => fun e => by
    have e2 := congrArg (fun x : Str => x.cps.toList.getLast?) e
    have f : ∀ k, (cand z (k + 1)).cps.toList.getLast? = some (97 + k) := fun k => by
      show (nstep (cand z k) k).cps.toList.getLast? = _
      rw [nstep_l, List.getLast?_append]; rfl
    rw [f, f] at e2
    have := Option.some.inj e2
    omega
def NInv (ns : List Str) (z0 : Str) (i : Nat) (z : Str) : Prop := (z = cand z0 i ∧ ∀ j, j < i → cand z0 j ∈ ns) ∨ (z ∉ ns ∧ ∃ j, z = cand z0 j ∧ j ≤ i)
theorem ninv_end {ns : List Str} {z0 z : Str} (h1 : z0.length ≤ 3) (h : NInv ns z0 (ns.length + 1) z) : z ∉ ns ∧ ∃ j, z = cand z0 j ∧ j ≤ ns.length + 1 := by
  rcases h with ⟨_, h⟩ | h
  · exfalso
    have nd : ((List.range (ns.length + 1)).map (cand z0)).Nodup := by
      refine List.Pairwise.map _ (fun a b (hab : a < b) => cand_inj h1 a b hab) ?_
      exact List.pairwise_lt_range
    have := nodup_sub_len nd (m := ns) (fun x hx => by
      obtain ⟨j, hj, rfl⟩ := List.mem_map.mp hx
      exact h j (List.mem_range.mp hj))
    rw [List.length_map, List.length_range] at this
    omega
  · exact h
theorem join_ones : ∀ cs : List Nat, (Txt.join "" (cs.map fun c => (⟨#[c]⟩ : Str))).cps.toList = cs := by
  intro cs
  rw [TL.join_eq]
  induction cs with
  | nil => rfl
  | cons c cs ih =>
    rw [List.map_cons]
    have : Str.join ("" : Str) ((⟨#[c]⟩ : Str) :: cs.map fun c => (⟨#[c]⟩ : Str)) = ⟨#[c]⟩ ++ Str.join "" (cs.map fun c => (⟨#[c]⟩ : Str)) := PyProof.Rows.join_nil_cons _ _
    rw [this]
    show TL.tl (_ ++ _) = _
    rw [TL.tl_append]
    show [c] ++ (Str.join "" (cs.map fun c => (⟨#[c]⟩ : Str))).cps.toList = _
    rw [ih]; rfl
theorem signs_of {ds : List D} {U : Str} (h : ∀ d ∈ ds, d ∈ signsD U) : ∃ cs : List Nat, ds = (cs.map fun c => (⟨#[c]⟩ : Str)).map D.str ∧ ∀ c ∈ cs, c ∈ U.cps.toList := by
  induction ds with
  | nil => exact ⟨[], rfl, fun c hc => by cases hc⟩
  | cons d ds ih =>
    obtain ⟨cs, rfl, hcs⟩ := ih fun x hx => h x (List.mem_cons_of_mem _ hx)
    have := h d List.mem_cons_self
    unfold signsD at this
    obtain ⟨c, hc, rfl⟩ := List.mem_map.mp this
    exact ⟨c :: cs, rfl, fun x hx => by
      rcases List.mem_cons.mp hx with rfl | hx
      · exact hc
      · exact hcs x hx⟩
theorem ones_sum (cs : List Nat) : ((cs.map fun c => (⟨#[c]⟩ : Str)).map (·.length)).sum = cs.length := by
  induction cs with
  | nil => rfl
  | cons c cs ih =>
    rw [List.map_cons, List.map_cons, List.sum_cons, ih, List.length_cons]
    show 1 + _ = _
    omega
section
variable {s t : Addr} {c1 : Nat} {σ : L2.St} {B : Hp} {te : TE} {tr : TA} {E : XK} {i : Nat} {P : D → Prop} {PA : List D → Prop}
theorem es_draw (ne : s ≠ t) (hi : σ[i]? = some (some (.ref s))) (ha : EvSA s t c1 tr σ B PA) (hp : ∀ ds, PA ds → ∃ m : Int, ds = [.int m] ∧ 1 ≤ m ∧ m < 1073741824 ∧ ∀ j, 0 ≤ j → j < m → P (.int j)) : EvS s t (c1 + 1) (tCall Sp_draw [] E (tCons (tVar i) tr)) σ B P :=
  es_call (c2 := 1) ne hi ha fun ds h => by
    obtain ⟨m, e, h1, h2, h3⟩ := hp ds h
    exact ⟨m, e, ⟨h1, h2⟩, Nat.le_refl _, fun d ⟨j, ej, h4, h5⟩ => by rw [ej]; exact h3 j h4 h5⟩
theorem es_draw0 {m : Int} (ne : s ≠ t) (hi : σ[i]? = some (some (.ref s))) (ha : ∀ n, Ev (St s t n) te σ B (.int m)) (h1 : 1 ≤ m) (h2 : m < 1073741824) : EvS s t 1 (tCall Sp_draw [] E (tCons (tVar i) (tCons te tNil))) σ B (intIn 0 m) :=
  es_call0 (α := Int) (cost := fun _ => 1) (inp := fun m => [.int m]) (pre := fun m => 1 ≤ m ∧ m < 1073741824) (post := fun m d => intIn 0 m d) m ne hi (fun n => ea_cons (ha n) ea_nil) ⟨h1, h2⟩
theorem es_pick0 {th : D} {l : List D} (ne : s ≠ t) (hi : σ[i]? = some (some (.ref s))) (ha : ∀ n, Ev (St s t n) te σ B th) (h0 : itD th = some l) (h1 : 1 ≤ l.length) (h2 : l.length ≤ 1000) : EvS s t 1 (tCall Sp_pick [] E (tCons (tVar i) (tCons te tNil))) σ B (fun d => d ∈ l) :=
  es_call0 (α := Pk) (cost := fun _ => 1) (inp := fun p => [p.th]) (pre := fun p => itD p.th = some p.l ∧ 1 ≤ p.l.length ∧ p.l.length ≤ 1000) (post := fun p d => d ∈ p.l) ⟨th, l⟩ ne hi (fun n => ea_cons (ha n) ea_nil) ⟨h0, h1, h2⟩
theorem es_mixed0 {th : D} {l : List D} (ne : s ≠ t) (hi : σ[i]? = some (some (.ref s))) (ha : ∀ n, Ev (St s t n) te σ B th) (h0 : sq th = some l) (h2 : l.length ≤ 1000) : EvS s t l.length (tCall Sp_mixed [] E (tCons (tVar i) (tCons te tNil))) σ B (fun d => ∃ l', d = .lst l' ∧ l'.Perm l) :=
  es_call0 (α := Mx) (cost := fun p => p.l.length) (inp := fun p => [p.th]) (pre := fun p => sq p.th = some p.l ∧ p.l.length ≤ 1000) (post := fun p d => ∃ l', d = .lst l' ∧ l'.Perm p.l) ⟨th, l⟩ ne hi (fun n => ea_cons (ha n) ea_nil) ⟨h0, h2⟩
theorem es_mixed {c2 : Nat} (ne : s ≠ t) (hi : σ[i]? = some (some (.ref s))) (ha : EvSA s t c1 tr σ B PA) (hp : ∀ ds, PA ds → ∃ th l, ds = [th] ∧ sq th = some l ∧ l.length ≤ 1000 ∧ l.length ≤ c2 ∧ ∀ l', l'.Perm l → P (.lst l')) : EvS s t (c1 + c2) (tCall Sp_mixed [] E (tCons (tVar i) tr)) σ B P :=
  es_call (α := Mx) (c2 := c2) ne hi ha fun ds h => by
    obtain ⟨th, l, e, h1, h2, h3, h4⟩ := hp ds h
    exact ⟨⟨th, l⟩, e, ⟨h1, h2⟩, h3, fun d ⟨l', e', pl⟩ => by rw [e']; exact h4 l' pl⟩
end
section
variable {P : Program} {w : World} {K : PySem.W.Frag} {mg : Str → Option Value} {base : Heap} {f C : Addr} {fd : FuncData} {M : Md} {σ : L2.St} {B : Hp} {te ta tb : TE} {V : Vl} {d : D} {F0 F : List Addr} {H0 H : Hp} {De : Ends} {tz : TS}
theorem r_twoFV {i j : Nat} {ds : List D} (R : Rn M F0 H0 F B H) (h1 : EvF M ta σ B ds) (h2 : ∀ B', Ex B B' → Ev M tb σ B' d)
    (k : ∀ p vs v B' H', DL.Fr H0 p → Ex B B' → (∀ b ∈ F, H' b = H b) → Rn M F0 H0 (p :: F) B' H' → p ∉ F → p ∉ M.S → p ∉ F0 → H' p = some (.lst vs) → DtL B' ds vs → Dt B' d v → tz De ((σ.set i (some (.ref p))).set j (some v)) H') :
    tSeq (tAsg (tTup (tCons ta (tCons tb tNil))) (gTup K 2 (gCons (gName i) (gCons (gName j) gNil)))) tz De σ H :=
  h1 F H _ R.w fun p vs H1 f g e hd => by
    obtain ⟨Rk, xk, n1, n2⟩ := R.own g f e rfl
    refine h2 _ xk (p :: F) H1 _ Rk.w fun v H2 g2 dv => ⟨(show 2 ≤ sizeLine by decide), fun tp htp => ⟨tp, _, rfl, SqT.of upd_same, rfl, _, _, rfl, _, _, rfl, rfl, ?_⟩⟩
    have R2 := Rk.step g2
    have g3 := R2.w.new htp (.tup [.ref p, v])
    have x3 := (Rk.ext g2).trans (R2.ext g3)
    exact k p vs v _ _ (R.fr f) (xk.trans x3) (fun b hb => by rw [g3.x b (List.mem_cons_of_mem _ hb), g2.x b (List.mem_cons_of_mem _ hb), g.x b hb]) (R2.step g3) n1 n2 (fun z => n1 (R.s p z)) (by rw [g3.x p List.mem_cons_self, g2.x p List.mem_cons_self]; exact e) (hd.mono x3.le) (dv.mono (R2.ext g3).le)
/-- x in xs, xs ours, texts -/
theorem x_inS {i j : Nat} {p : Addr} {z : Str} {ns : List Str} {Q : Bool → Hp → Prop} (hi : σ[i]? = some (some (.str z))) (hj : σ[j]? = some (some (.ref p))) (hp : H p = some (.lst (ns.map L2.V.str))) (q : Q (decide (z ∈ ns)) H) : tTest (tOp (rIn K false) (tVar i) (tVar j)) σ H Q :=
  ⟨_, hi, _, hj, p, _, rfl, .inl (SqL.of hp), rfl, flat_strs ns, by rw [inV_strs]; exact ⟨_, rfl, q⟩⟩
theorem x_lenL {i : Nat} {p : Addr} {vs : List L2.V} {Q : VK} (hi : σ[i]? = some (some (.ref p))) (hp : H p = some (.lst vs)) (q : Q (.int (vs.length : Nat)) H) : tCB (rLn K) (tCons (tVar i) tNil) σ H Q :=
  ⟨_, hi, p, vs, rfl, .inl (SqL.of hp), q⟩
abbrev Sp_names := SpS (α := Int) (fun m => 5 * m.toNat) (fun m => [.int m]) (fun m => 1 ≤ m ∧ m ≤ 16) (fun m d => ∃ ns : List Str, d = .lst (ns.map .str) ∧ (ns.length : Int) = m ∧ ns.Nodup ∧ ∀ s ∈ ns, nmOk s)
abbrev N_names : List Str := ["stream", "many", "found", "signs", "k", "name", "one", "at"]
theorem ok_names {a1 a2 : Addr} (F : Fun K "_law_names" "_law_names" s_law_names f fd) (N : Bn mg) (g1 : mg "_law_draw" = some (.ref a1)) (O1 : OkF P w K mg base 1 a1 ["stream", "many"] Sp_draw) (g2 : mg "_law_pick" = some (.ref a2)) (O2 : OkF P w K mg base 2 a2 ["stream", "things"] Sp_pick) :
    FnOk P w K mg base CX0 3 f fd ["stream", "many"] Sp_names := by
  refine F.ok sc_law_names (SpS.len fun _ => rfl) (fun cdv A outer s H vs Q E hr h => ?_)
  obtain ⟨st, t, n, F0, m, ws, rfl, dj, ne, W, hw, ⟨hm1, hm2⟩, hc, k⟩ := h
  obtain ⟨x, rfl, hx⟩ := one_inv hw
  have ex : x = .int m := hx
  subst ex
  refine ⟨_, pss_cons (ps_asg (g := gTup K 2 (gCons (gName 2) (gCons (gName 3) gNil))) (pe_tup (pa_cons (pe_lst pa_nil) (pa_cons pe_str pa_nil))) (by exact pg_tup (by rfl) (pgs_cons (pg_name (i := 2) sc_law_names.nd rfl (Or.inl rfl)) (pgs_cons (pg_name (i := 3) sc_law_names.nd rfl (Or.inr rfl)) pgs_nil))))
    (pss_cons (ps_for PassesOwn.never (by rfl) (pi_range1 (by rfl) N.range (pa_cons (pv 1) pa_nil)) (pg_name (i := 4) sc_law_names.nd rfl (Or.inl rfl))
      (pss_cons (ps_set (i := 5) sc_law_names.nd rfl (Or.inl rfl) (pe_join pe_str (pe_lc (own := [("one", 6)]) (g := gName 6) (by rfl) sc_law_names.nd (pi_range1 (by rfl) N.range (pa_cons (pe_op op_add pe_int (pe_c O1 (hr.mono (by decide)) g1 (pa_cons (pv 0) (pa_cons (pe_c O2 hr g2 (pa_cons (pv 0) (pa_cons (pe_lst (pa_cons pe_int (pa_cons pe_int (pa_cons pe_int pa_nil)))) pa_nil))) pa_nil)))) pa_nil)) (blkOk_by (own := [("one", 6)]) (N := N_names) (sc := defScope s_law_names) (by decide +kernel)) (fun _ _ _ _ _ => pg_name (i := 6) sc_law_names.nd rfl (Or.inl rfl)) (fun _ _ _ _ _ => pts_nil) (fun _ _ _ _ _ => (pe_c O2 hr g2 (pa_cons (pv 0) (pa_cons (pv 3) pa_nil)))))))
      (pss_cons (ps_for PassesOwn.never (by rfl) (pi_range1 (by rfl) N.range (pa_cons (pe_op op_add (pe_callB call_len_seq (by rfl) N.len PySem.boot_len (pa_cons (pv 2) pa_nil)) pe_int) pa_nil)) (pg_name (i := 7) sc_law_names.nd rfl (Or.inl rfl))
        (pss_one (ps_if (pt_cmpR op_in_seq (pv 5) (pv 2) (by rfl)) (pss_one (ps_set (i := 5) sc_law_names.nd rfl (Or.inl rfl) (pe_op op_add_str (pe_op op_add_str (pe_slice sl_str (pv 5) po_none (po_some pe_int)) (pe_ix ix_seq (pv 3) (pe_op op_fdiv (pv 7) pe_int) (fun _ _ => rfl))) (pe_ix ix_seq (pv 3) (pe_op op_mod (pv 7) pe_int) (fun _ _ => rfl))))) pss_nil)))
      (pss_one (ps_expr (pe_bm PySem.F.plainAttrs_list PySem.F.slot_list_append PySem.F.type_list_append mt_append (pv 2) (pa_cons (pv 5) pa_nil)))))))
    (pss_one (ps_ret (pv 2)))), ?_⟩
  have hm1 : 1 ≤ m := hm1
  have hm2 : m ≤ 16 := hm2
  have hc : n + 5 * m.toNat ≤ 2 ^ 40 := hc
  have hsz : (64 : Nat) < sizeLine := by decide
  refine r_twoFV (d := .str letters) (Rn.begin W) (ef_lst (ds := []) ea_nil (Nat.zero_le _)) (fun _ _ => ev_str) fun p vs v B1 H1 fp e1 k1 R1 nF nS nF0 hp hd dv => ?_
  have ev : v = .str letters := dv
  subst ev
  have hvs : vs = [] := DtL.nil_inv hd
  subst hvs
  have ns1 : p ≠ st := fun z => nS (by rw [z]; exact List.mem_cons_self)
  have ns2 : p ≠ t := fun z => nS (by rw [z]; exact List.mem_cons_of_mem _ List.mem_cons_self)
  have dj' : Dj st t (p :: F0) := ⟨fun z => (List.mem_cons.mp z).elim (fun z => ns1 z.symm) dj.1, fun z => (List.mem_cons.mp z).elim (fun z => ns2 z.symm) dj.2⟩
  refine r_forSI (c := 0) (PI := fun l => l = rangeD 0 m.toNat) (esi_ei (ei_rng1 (n := m) (ea_cons (ev_var rfl (show Dt B1 (.int m) (.int m) from rfl)) ea_nil) (by omega) (by omega))) R1 dj' (by omega)
    (fun ys i σ B' H' => ∃ ns v4 v5 v7, σ = [some (.ref st), some (.int m), some (.ref p), some (.str letters), v4, v5, none, v7] ∧ Rn (DL.St st t (n + 5 * i)) F0 H (p :: F0) B' H' ∧ H' p = some (.lst (ns.map L2.V.str)) ∧ ns.length = i ∧ ns.Nodup ∧ ∀ s ∈ ns, nmOk s)
    (fun ys i σ B' H' ⟨_, _, _, _, _, R, _⟩ => ⟨_, R⟩) (fun ys B' H' py e kk R => ⟨[], none, none, none, rfl, R, by rw [kk p List.mem_cons_self]; exact hp, rfl, List.nodup_nil, fun s hs => by cases hs⟩) ?_ ?_
  · rintro ys i d xv σ' Bb B1' H1' B2 H2 rfl eb eb1 hd' ⟨ns, v4, v5, v7, rfl, Ri, hpi, hln, hnd, hok⟩ e2 k2 up2 dx
    have hin : i < m.toNat := by
      have := (List.getElem?_eq_some_iff.mp hd').1
      rwa [rangeD_length] at this
    have R2 := up2 _ Ri
    have hp2 : H2 p = some (.lst (ns.map L2.V.str)) := by rw [k2 p List.mem_cons_self]; exact hpi
    -- the drawn name
    have evn : EvS st t 5 (tM1 (rJoin K) (tC (.str "")) (tLc (iRng1 (tCons (tOp (rI0 fun i j => .int (i + j)) (tC (.int 1)) (tCall Sp_draw [] E0 (tCons (tVar 0) (tCons (tCall Sp_pick [] E0 (tCons (tVar 0) (tCons (tLst (tCons (tC (.int 1)) (tCons (tC (.int 1)) (tCons (tC (.int 3)) tNil)))) tNil))) tNil)))) tNil)) (gName 6) tYes (tCall Sp_pick [] E0 (tCons (tVar 0) (tCons (tVar 3) tNil))) [6]))
        [some (.ref st), some (.int m), some (.ref p), some (.str letters), some xv, v5, none, v7] B2 (fun d => ∃ z : Str, d = .str z ∧ 1 ≤ z.length ∧ z.length ≤ 3 ∧ ∀ c ∈ z.cps.toList, c ∈ letters.cps.toList) := by
      refine es_join (c := 5) (fun n' B' e => ev_str) (EvS.le (c0 := 2 + 1 * 3) (es_lc (m := 3) (c0 := 2) (c := 1) (PI := fun ys => 1 ≤ ys.length ∧ ys.length ≤ 3) (PE := fun _ _ d => d ∈ signsD letters) ?_ (fun ys h => h.2) (by omega) (fun x => rfl) ?_) (by omega)) ?_
      · refine esi_rng1 (PA := fun ds => ∃ d, ds = [d] ∧ intIn 1 4 d) (esa_one ?_) ?_
        · refine EvS.le (c0 := 0 + 2) (es_op (P2 := intIn 0 3) (es_ev fun n' => ev_int) (fun B' e => ?_) ?_) (by omega)
          · refine es_draw (c1 := 1) ne rfl (esa_one (es_pick0 (th := .lst [.int 1, .int 1, .int 3]) (l := [.int 1, .int 1, .int 3]) ne rfl (fun n' => EvF.ev (ef_lst (ea_cons ev_int (ea_cons ev_int (ea_cons ev_int ea_nil))) (show 3 ≤ sizeLine by decide))) rfl (by decide) (by decide))) ?_
            rintro ds ⟨d, rfl, hd3⟩
            have : ∃ i : Int, d = .int i ∧ 1 ≤ i ∧ i ≤ 3 := by
              simp only [List.mem_cons, List.not_mem_nil, or_false] at hd3
              rcases hd3 with rfl | rfl | rfl <;> exact ⟨_, rfl, by omega, by omega⟩
            obtain ⟨i, rfl, h1, h3⟩ := this
            exact ⟨i, rfl, h1, by omega, fun j hj0 hj1 => ⟨j, rfl, hj0, by omega⟩⟩
          · rintro x y rfl ⟨i, rfl, h0, h3⟩
            exact ⟨.int (1 + i), ⟨1 + i, rfl, by omega, by omega⟩, fun M => rv_I0 rfl⟩
        · rintro ds ⟨d, rfl, i, rfl, h1, h4⟩
          exact ⟨i, rfl, by omega, by omega, by rw [rangeD_length]; omega, by rw [rangeD_length]; omega⟩
      · intro ys pys d hd B' x e dx
        exact es_pick0 (th := .str letters) (l := signsD letters) ne rfl (fun n' => ev_var rfl (show Dt B' (.str letters) (.str letters) from rfl)) rfl (by decide +kernel) (by decide +kernel)
      · rintro r ⟨ys, ds, ⟨hy1, hy3⟩, rfl, hdl, hPE⟩
        obtain ⟨cs, rfl, hcs⟩ := signs_of (U := letters) (ds := ds) fun d hd => by
          obtain ⟨j, hj, ej⟩ := List.mem_iff_getElem.mp hd
          exact hPE j ys[j] d (List.getElem?_eq_getElem (by omega)) (by rw [List.getElem?_eq_getElem hj, ej])
        rw [List.length_map, List.length_map] at hdl
        refine ⟨_, rfl, ?_, _, rfl, ?_, ?_, ?_⟩
        · rw [ones_sum, List.length_map]
          show cs.length + cs.length * 0 ≤ _
          omega
        · rw [← str_len, join_ones]; omega
        · rw [← str_len, join_ones]; omega
        · rw [join_ones]; exact hcs
    refine r_setS (σ := [some (.ref st), some (.int m), some (.ref p), some (.str letters), some xv, v5, none, v7]) evn R2 dj' (by omega) fun v5' B3 H3 d3 ⟨z0, e3d, hz1, hz3, hzc⟩ e3 k3 R3 dv3 => ?_
    subst e3d
    have ev5 : v5' = .str z0 := dv3
    subst ev5
    have hp3 : H3 p = some (.lst (ns.map L2.V.str)) := by rw [k3 p List.mem_cons_self]; exact hp2
    have hz0 : nmOk z0 := ⟨hz1, by omega, hzc⟩
    refine r_forX (ys := rangeD 0 ((ns.length : Int) + 1).toNat) R3 (x_rng (k := (ns.length : Int) + 1) (fun Q q => x_lenL rfl hp3 ⟨_, _, rfl, rfl, by rw [List.length_map]; exact q⟩) (by omega) (by omega))
      (fun i2 σ B' H' => ∃ z v7, σ = [some (.ref st), some (.int m), some (.ref p), some (.str letters), some xv, some (.str z), none, v7] ∧ Rn (DL.St st t (n + 5 * i + 5)) F0 H (p :: F0) B' H' ∧ H' p = some (.lst (ns.map L2.V.str)) ∧ NInv ns z0 i2 z)
      (fun i2 σ B' H' ⟨_, _, _, R, _⟩ => ⟨_, R⟩) ⟨z0, v7, rfl, R3, hp3, .inl ⟨rfl, fun j hj => by omega⟩⟩ ?_ ?_
    · rintro i2 d2 x2 σ2 B4 H4 B5 H5 e4 hd2 ⟨z, v7', rfl, R4, hp4, hinv⟩ e5 k5 up5 dx2
      have R5 := up5 _ R4
      have hp5 : H5 p = some (.lst (ns.map L2.V.str)) := by rw [k5 p List.mem_cons_self]; exact hp4
      have hi2 : i2 < ns.length + 1 ∧ x2 = .int ((i2 : Nat) : Int) := by
        have h1 := (List.getElem?_eq_some_iff.mp hd2).1
        rw [rangeD_length] at h1
        have : d2 = .int (0 + (i2 : Nat)) := by
          unfold rangeD at hd2
          rw [List.getElem?_map, List.getElem?_range h1] at hd2
          exact (Option.some.inj hd2).symm
        subst this
        exact ⟨by omega, by rw [show x2 = .int (0 + ((i2 : Nat) : Int)) from dx2, Int.zero_add]⟩
      obtain ⟨hi2, rfl⟩ := hi2
      refine x_inS (σ := [some (.ref st), some (.int m), some (.ref p), some (.str letters), some xv, some (.str z), none, some (.int ((i2 : Nat) : Int))]) rfl rfl hp5 ?_
      have hj : ∃ j, z = cand z0 j ∧ j ≤ i2 := by
        rcases hinv with ⟨h, _⟩ | ⟨_, h⟩
        · exact ⟨i2, h, Nat.le_refl _⟩
        · exact h
      obtain ⟨jj, hjj, hji⟩ := hj
      have hzo : nmOk z := by rw [hjj]; exact cand_ok hz0 jj (by omega)
      by_cases hmem : z ∈ ns
      · rw [decide_eq_true hmem]
        refine iteT ?_
        have hz : z = cand z0 i2 ∧ ∀ j, j < i2 → cand z0 j ∈ ns := by
          rcases hinv with h | ⟨h, _⟩
          · exact h
          · exact absurd hmem h
        have hlt26 : i2 < 26 := by omega
        have l3 : (cutS z none (some 3)).length ≤ 5 := Nat.le_trans cut_len hzo.2.1
        refine r_ev (d := .str (nstep z i2)) R5 (ev_op (ev_op (d2 := .str ⟨#[97]⟩) (ev_slS (ev_var (i := 5) rfl (show Dt B5 (.str z) (.str z) from rfl)) eo_none (eo_some ev_int) (by have := hzo.2.1; omega)) (ev_op (d1 := .str letters) (d2 := .int 0) (ev_var rfl rfl) (ev_is (ev_op (d1 := .int ((i2 : Nat) : Int)) (d2 := .int 26) (d := .int (((i2 : Nat) : Int) / 26)) (ev_var rfl rfl) ev_int (rv_I rfl ⟨by decide, by decide⟩)) (by congr 1; omega)) (rv_ixStr (show letters.length ≤ sizeLine by decide +kernel) (letters_at 0 (by omega)))) (rv_addS ?_)) (d2 := .str ⟨#[97 + i2]⟩) (ev_op (d1 := .str letters) (d2 := .int ((i2 : Nat) : Int)) (ev_var rfl rfl) (ev_is (ev_op (d1 := .int ((i2 : Nat) : Int)) (d2 := .int 26) (d := .int (((i2 : Nat) : Int) % 26)) (ev_var rfl rfl) ev_int (rv_I rfl (by decide))) (by congr 1; omega)) (rv_ixStr (show letters.length ≤ sizeLine by decide +kernel) (letters_at i2 hlt26))) (rv_addS ?_)) fun v6 B6 H6 e6 g6 R6 dv6 => ?_
        · show (cutS z none (some 3)).length + 1 ≤ sizeLine
          omega
        · rw [cat_len]
          show (cutS z none (some 3)).length + 1 + 1 ≤ sizeLine
          omega
        · have ev6 : v6 = .str (nstep z i2) := dv6
          subst ev6
          refine ⟨B6, (e4.trans e5).trans e6, nstep z i2, _, rfl, R6, by rw [g6.x p List.mem_cons_self]; exact hp5, .inl ⟨?_, fun j hj => ?_⟩⟩
          · rw [hz.1]; rfl
          · by_cases q : j < i2
            · exact hz.2 j q
            · rw [show j = i2 by omega, ← hz.1]; exact hmem
      · rw [decide_eq_false hmem]
        refine iteF ⟨B5, e4.trans e5, z, _, rfl, R5, hp5, .inr ⟨hmem, jj, hjj, by omega⟩⟩
    · rintro σ2 B4 H4 e4 ⟨z, v7', rfl, R4, hp4, hinv⟩
      rw [rangeD_length, show ((ns.length : Int) + 1).toNat = ns.length + 1 by omega] at hinv
      obtain ⟨hnew, j, rfl, hj⟩ := ninv_end hz3 hinv
      have hzo := cand_ok hz0 j (by omega)
      refine r_appS (c := 0) (es_ev (d := .str (cand z0 j)) fun n' => ev_var rfl rfl) R4 dj' (by omega) List.mem_cons_self nF0 rfl hp4 (by rw [List.length_map]; omega) fun v7 B7 H7 d7 pd7 e7 R7 hb7 dv7 => ?_
      subst pd7
      have ev7 : v7 = .str (cand z0 j) := dv7
      subst ev7
      refine ⟨B7, ((((eb1.trans e2).trans e3).trans e4).trans e7), ns ++ [cand z0 j], _, _, _, rfl, R7.upS (by omega), by rw [upd_same, List.map_append]; rfl, by rw [List.length_append, hln]; rfl, ?_, fun s hs => ?_⟩
      · rw [List.nodup_append]
        exact ⟨hnd, by simp, fun a ha b hb => by rw [List.mem_singleton] at hb; rw [hb]; exact fun z => hnew (by rw [← z]; exact ha)⟩
      · rcases List.mem_append.mp hs with h | h
        · exact hok s h
        · rw [List.mem_singleton] at h; rw [h]; exact hzo
  · rintro ys σ' B2 H2 rfl e2 ⟨ns, v4, v5, v7, rfl, R2, hp2, hln, hnd, hok⟩
    rw [rangeD_length] at R2 hln
    obtain ⟨R8, e8⟩ := R2.see (G := F0) (fun b hb => List.mem_cons_of_mem _ hb) (fun b hb => hb)
    have dres : Dt (Hd (DL.St st t (n + 5 * m.toNat)) F0 H2) (.lst (ns.map .str)) (.ref p) := lst_mk (hd_some.mpr ⟨⟨nS, nF0⟩, hp2⟩) (DtL.ofStrs ns)
    exact ⟨_, rfl, k _ H2 _ ⟨ns, rfl, by omega, hnd, hok⟩ R8.go dres⟩
end
end Pg

namespace Pg
open PySem PySem.Spec PyProof.Rows L2 DL RX RZ LiI
/-! ### a drawn village, plain -/
theorem str_of_l {a b : Str} (h : a.cps.toList = b.cps.toList) : a = b := TL.ext_tl h
theorem leS_trans (a b c : Str) (h1 : leS a b = true) (h2 : leS b c = true) : leS a c = true := decide_eq_true (List.le_trans (of_decide_eq_true h1) (of_decide_eq_true h2))
theorem leS_total (a b : Str) : (leS a b || leS b a) = true := by
  rw [Bool.or_eq_true]
  rcases List.le_total a.cps.toList b.cps.toList with h | h
  · exact .inl (decide_eq_true h)
  · exact .inr (decide_eq_true h)
theorem leS_anti {a b : Str} (h1 : leS a b = true) (h2 : leS b a = true) : a = b := str_of_l (List.le_antisymm (of_decide_eq_true h1) (of_decide_eq_true h2))
theorem leS_refl (a : Str) : leS a a = true := decide_eq_true (List.le_refl _)
theorem leSS_trans (a b c : Str × Str) (h1 : leSS a b = true) (h2 : leSS b c = true) : leSS a c = true := by
  unfold leSS at *
  by_cases ab : a.1 = b.1
  · rw [if_pos ab] at h1
    by_cases bc : b.1 = c.1
    · rw [if_pos bc] at h2
      rw [if_pos (ab.trans bc)]
      exact leS_trans _ _ _ h1 h2
    · rw [if_neg bc] at h2
      rw [if_neg (fun z => bc (ab.symm.trans z)), ab]
      exact h2
  · rw [if_neg ab] at h1
    by_cases bc : b.1 = c.1
    · rw [if_neg (fun z => ab (z.trans bc.symm)), ← bc]
      exact h1
    · rw [if_neg bc] at h2
      by_cases ac : a.1 = c.1
      · exact absurd (leS_anti h1 (by rw [ac]; exact h2)) ab
      · rw [if_neg ac]
        exact leS_trans _ _ _ h1 h2
theorem leSS_total (a b : Str × Str) : (leSS a b || leSS b a) = true := by
  unfold leSS
  by_cases ab : a.1 = b.1
  · rw [if_pos ab, if_pos ab.symm]; exact leS_total _ _
  · rw [if_neg ab, if_neg (fun z => ab z.symm)]; exact leS_total _ _
theorem leSS_anti {a b : Str × Str} (h1 : leSS a b = true) (h2 : leSS b a = true) : a = b := by
  unfold leSS at *
  by_cases ab : a.1 = b.1
  · rw [if_pos ab] at h1
    rw [if_pos ab.symm] at h2
    exact Prod.ext ab (leS_anti h1 h2)
  · rw [if_neg ab] at h1
    rw [if_neg (fun z => ab z.symm)] at h2
    exact absurd (leS_anti h1 h2) ab
theorem sortS_perm {l m : List Str} (h : l.Perm m) : l.mergeSort leS = m.mergeSort leS :=
  List.Perm.eq_of_pairwise (le := fun a b => leS a b = true) (fun a b _ _ h1 h2 => leS_anti h1 h2) (List.pairwise_mergeSort leS_trans leS_total l) (List.pairwise_mergeSort leS_trans leS_total m) (((List.mergeSort_perm l leS).trans h).trans (List.mergeSort_perm m leS).symm)
theorem sortSS_perm {l m : List (Str × Str)} (h : l.Perm m) : l.mergeSort leSS = m.mergeSort leSS :=
  List.Perm.eq_of_pairwise (le := fun a b => leSS a b = true) (fun a b _ _ h1 h2 => leSS_anti h1 h2) (List.pairwise_mergeSort leSS_trans leSS_total l) (List.pairwise_mergeSort leSS_trans leSS_total m) (((List.mergeSort_perm l leSS).trans h).trans (List.mergeSort_perm m leSS).symm)
theorem mm_cases (p : Str × Str) : mm p = p ∨ mm p = (p.2, p.1) := by
  obtain ⟨a, b⟩ := p
  unfold mm minS maxS
  dsimp only
  by_cases h : b.cps.toList < a.cps.toList
  · rw [if_pos h, if_neg (List.lt_asymm h)]; exact .inr rfl
  · rw [if_neg h]
    by_cases h2 : a.cps.toList < b.cps.toList
    · rw [if_pos h2]; exact .inl rfl
    · rw [if_neg h2]
      have : a = b := str_of_l (List.le_antisymm h h2)
      subst this
      exact .inl rfl
theorem mm_swap (a b : Str) : mm (b, a) = mm (a, b) := by
  unfold mm minS maxS
  dsimp only
  by_cases h : b.cps.toList < a.cps.toList
  · have h2 := List.lt_asymm h
    rw [if_pos h, if_neg h2, if_neg h2, if_pos h]
  · by_cases h2 : a.cps.toList < b.cps.toList
    · rw [if_neg h, if_pos h2, if_pos h2, if_neg h]
    · have : a = b := str_of_l (List.le_antisymm h h2)
      subst this
      rfl
theorem mm_mm (p : Str × Str) : mm (mm p) = mm p := by
  rcases mm_cases p with h | h
  · rw [h, h]
  · rw [h, mm_swap]; exact h
theorem mkV_ns (names : List Str) (lanes : List D) : (mkV names lanes).ns = names.mergeSort leS := rfl
theorem mkV_ls (names : List Str) (found : List (Str × Str)) : (mkV names (found.map pD)).ls = (found.map mm).mergeSort leSS := by
  show (List.map (fun t => mm (laneP t)) (found.map pD)).mergeSort leSS = _
  rw [List.map_map]; rfl
structure LOk (names : List Str) (found : List (Str × Str)) : Prop where
  l : found.length ≤ 64
  m : ∀ p ∈ found, p.1 ∈ names ∧ p.2 ∈ names ∧ p.1 ≠ p.2
theorem vok_mk {names : List Str} {found : List (Str × Str)} (h0 : names ≠ []) (hn : names.length ≤ 16) (nd : names.Nodup) (nm : ∀ s ∈ names, isName s = true) (L : LOk names found) : VOk (mkV names (found.map pD)) := by
  have pn : (mkV names (found.map pD)).ns.Perm names := List.mergeSort_perm names leS
  have pl : (mkV names (found.map pD)).ls.Perm (found.map mm) := by rw [mkV_ls]; exact List.mergeSort_perm _ _
  refine ⟨fun z => ?_, by rw [pn.length_eq]; exact hn, pn.symm.nodup nd, fun s hs => nm s (pn.mem_iff.mp hs), by rw [pl.length_eq, List.length_map]; exact L.l, fun p hp => ?_⟩
  · have := pn.length_eq
    rw [z] at this
    exact h0 (List.length_eq_zero_iff.mp this.symm)
  · obtain ⟨q, hq, rfl⟩ := List.mem_map.mp (pl.mem_iff.mp hp)
    obtain ⟨m1, m2, m3⟩ := L.m q hq
    rcases mm_cases q with e | e
    · rw [e]; exact ⟨pn.mem_iff.mpr m1, pn.mem_iff.mpr m2, m3⟩
    · rw [e]; exact ⟨pn.mem_iff.mpr m2, pn.mem_iff.mpr m1, fun z => m3 z.symm⟩
/-- each house but the first leads to one ahead of it -/
def Tree (mixed : List Str) (found : List (Str × Str)) (k : Nat) : Prop := ∀ i, 1 ≤ i → i < k → ∃ a b j, mixed[i]? = some a ∧ mixed[j]? = some b ∧ j < i ∧ (a, b) ∈ found
theorem cnt_pos {ls : List (Str × Str)} {a b : Str} {p : Str × Str} (hp : p ∈ ls) (h : (p.1 = a ∧ p.2 = b) ∨ (p.1 = b ∧ p.2 = a)) : 0 < cnt ls a b := by
  unfold cnt
  have hm : p ∈ ls.filter fun p => (p.1 = a ∧ p.2 = b) ∨ (p.1 = b ∧ p.2 = a) := List.mem_filter.mpr ⟨hp, by simpa using h⟩
  have := List.length_pos_of_mem hm
  omega
theorem conn_mk {names mixed : List Str} {found : List (Str × Str)} (pm : mixed.Perm names) (T : Tree mixed found mixed.length) : Conn (mkV names (found.map pD)) := by
  intro S h0 hcl
  have pn : (mkV names (found.map pD)).ns.Perm names := List.mergeSort_perm names leS
  have pl : (mkV names (found.map pD)).ls.Perm (found.map mm) := by rw [mkV_ls]; exact List.mergeSort_perm _ _
  have mem : ∀ {a}, a ∈ mixed → a ∈ (mkV names (found.map pD)).ns := fun h => pn.mem_iff.mpr (pm.mem_iff.mp h)
  have edge : ∀ {a b}, (a, b) ∈ found → 0 < cnt (mkV names (found.map pD)).ls a b ∧ 0 < cnt (mkV names (found.map pD)).ls b a := fun {a b} h => by
    have hm : mm (a, b) ∈ (mkV names (found.map pD)).ls := pl.mem_iff.mpr (List.mem_map.mpr ⟨_, h, rfl⟩)
    rcases mm_cases (a, b) with e | e
    · rw [e] at hm; exact ⟨cnt_pos hm (.inl ⟨rfl, rfl⟩), cnt_pos hm (.inr ⟨rfl, rfl⟩)⟩
    · rw [e] at hm; exact ⟨cnt_pos hm (.inr ⟨rfl, rfl⟩), cnt_pos hm (.inl ⟨rfl, rfl⟩)⟩
  have down : ∀ (j : Nat) a, mixed[j]? = some a → S a → ∀ z, mixed[0]? = some z → S z := by
    intro j
    induction j using Nat.strongRecOn with
    | ind j ih =>
      intro a ha hs z hz
      cases j with
      | zero => rw [hz] at ha; cases ha; exact hs
      | succ j =>
        obtain ⟨a', b, i, h1, h2, h3, h4⟩ := T (j + 1) (by omega) (List.getElem?_eq_some_iff.mp ha).1
        rw [ha] at h1; cases h1
        exact ih i h3 b h2 (hcl a (mem (List.mem_of_getElem? ha)) b (mem (List.mem_of_getElem? h2)) hs (edge h4).1) z hz
  have first : ∀ z, mixed[0]? = some z → S z := by
    intro z hz
    cases hns : (mkV names (found.map pD)).ns with
    | nil =>
      have := pn.length_eq
      rw [hns, ← pm.length_eq] at this
      have hl := (List.getElem?_eq_some_iff.mp hz).1
      simp at this
      omega
    | cons a l =>
      have ha : a ∈ mixed := pm.mem_iff.mpr (pn.mem_iff.mp (by rw [hns]; exact List.mem_cons_self))
      obtain ⟨j, hj, ej⟩ := List.mem_iff_getElem.mp ha
      exact down j a (by rw [List.getElem?_eq_getElem hj, ej]) (h0 a (by rw [hns]; rfl)) z hz
  have up : ∀ (j : Nat) a, mixed[j]? = some a → S a := by
    intro j
    induction j using Nat.strongRecOn with
    | ind j ih =>
      intro a ha
      cases j with
      | zero => exact first a ha
      | succ j =>
        obtain ⟨a', b, i, h1, h2, h3, h4⟩ := T (j + 1) (by omega) (List.getElem?_eq_some_iff.mp ha).1
        rw [ha] at h1; cases h1
        exact hcl b (mem (List.mem_of_getElem? h2)) a (mem (List.mem_of_getElem? ha)) (ih i h3 b h2) (edge h4).2
  intro a ha
  obtain ⟨j, hj, ej⟩ := List.mem_iff_getElem.mp (pm.mem_iff.mpr (pn.mem_iff.mp ha))
  exact up j a (by rw [List.getElem?_eq_getElem hj, ej])
/-- what stands in order -/
structure VSo (V : Vl) : Prop where
  ok : VOk V
  co : Conn V
  ns : V.ns.mergeSort leS = V.ns
  ls : V.ls.mergeSort leSS = V.ls
  mm : ∀ p ∈ V.ls, mm p = p
theorem vso_mk {names mixed : List Str} {found : List (Str × Str)} (h0 : names ≠ []) (hn : names.length ≤ 16) (nd : names.Nodup) (nm : ∀ s ∈ names, isName s = true) (L : LOk names found) (pm : mixed.Perm names) (T : Tree mixed found mixed.length) : VSo (mkV names (found.map pD)) := by
  refine ⟨vok_mk h0 hn nd nm L, conn_mk pm T, ?_, ?_, fun p hp => ?_⟩
  · exact sortS_perm (l := names.mergeSort leS) (List.mergeSort_perm names leS)
  · rw [mkV_ls]
    exact sortSS_perm (List.mergeSort_perm _ _)
  · rw [mkV_ls] at hp
    obtain ⟨q, _, rfl⟩ := List.mem_map.mp ((List.mergeSort_perm _ _).mem_iff.mp hp)
    exact mm_mm q
theorem mk_uniq {V : Vl} (h : VSo V) {names : List Str} {lanes : List D} (h1 : names.Perm V.ns) (h2 : (lanes.map fun t => mm (laneP t)).Perm V.ls) : mkV names lanes = V := by
  show (⟨_, _⟩ : Vl) = V
  obtain ⟨ns, ls⟩ := V
  have e1 := (sortS_perm h1).trans h.ns
  have e2 := (sortSS_perm h2).trans h.ls
  show (⟨names.mergeSort leS, (lanes.map fun t => mm (laneP t)).mergeSort leSS⟩ : Vl) = ⟨ns, ls⟩
  rw [e1, e2]
end Pg

namespace Pg
open PySem PySem.Spec PyProof.Rows L2 DL RX RZ LiI
theorem at_strs {ms : List Str} {j : Nat} {b : Str} (h : ms[j]? = some b) : atI (ms.map D.str) ((j : Nat) : Int) = some (.str b) := by
  unfold atI ixN
  have hl := (List.getElem?_eq_some_iff.mp h).1
  rw [if_pos (by omega), List.length_map, if_pos (by omega)]
  show (ms.map D.str)[((j : Nat) : Int).toNat]? = _
  rw [Int.toNat_natCast, List.getElem?_map, h]; rfl
theorem at_lastS {ms : List Str} {b : Str} (h : ms[ms.length - 1]? = some b) (h1 : 1 ≤ ms.length) : atI (ms.map D.str) (-1) = some (.str b) := by
  unfold atI ixN
  rw [if_neg (by omega), List.length_map, if_pos (by omega)]
  show (ms.map D.str)[(-1 + ((ms.length : Nat) : Int)).toNat]? = _
  rw [show (-1 + ((ms.length : Nat) : Int)).toNat = ms.length - 1 by omega, List.getElem?_map, h]; rfl
def strOf : D → Str
  | .str s => s
  | _ => ""
theorem perm_strs {l : List D} {ns : List Str} (h : l.Perm (ns.map D.str)) : ∃ ms : List Str, l = ms.map D.str ∧ ms.Perm ns := by
  refine ⟨l.map strOf, ?_, ?_⟩
  · rw [List.map_map]
    conv => lhs; rw [← List.map_id l]
    refine List.map_congr_left fun d hd => ?_
    obtain ⟨s, _, rfl⟩ := List.mem_map.mp (h.mem_iff.mp hd)
    rfl
  · have := h.map strOf
    rw [List.map_map] at this
    have e : ns.map (strOf ∘ D.str) = ns := by
      conv => rhs; rw [← List.map_id ns]
      rfl
    rw [e] at this
    exact this
theorem cut_two {x y : D} {r : List D} : DL.cutD (x :: y :: r) none (some 2) = [x, y] := by
  unfold DL.cutD
  have e : HT.sIx (x :: y :: r).length (x :: y :: r).length (some 2) = 2 := by
    show min 2 (r.length + 1 + 1) = 2
    omega
  rw [e]; rfl
section
variable {s t : Addr} {n c c1 c2 : Nat} {F0 F : List Addr} {H0 H B : Hp} {σ : L2.St} {te ta tb tc : TE} {tt : TT} {tu tw tz : TS} {De : Ends} {P1 P2 : D → Prop} {K : PySem.W.Frag} {p : Addr} {M : Md} {g : TG} {wi : TI} {PI : List D → Prop}
theorem r_par3SFS {i j l : Nat} {ds : List D} (h1 : EvS s t c1 ta σ B P1) (h2 : ∀ n B', Ex B B' → EvF (DL.St s t n) tb σ B' ds) (h3 : ∀ B', Ex B B' → EvS s t c2 tc σ B' P2) (R : Rn (DL.St s t n) F0 H0 F B H) (dj : Dj s t F) (hc : n + c1 + c2 ≤ 2 ^ 40)
    (k : ∀ v p vs u B' H' d1 d2, P1 d1 → P2 d2 → DL.Fr H0 p → Ex B B' → (∀ b ∈ F, H' b = H b) → Rn (DL.St s t (n + c1 + c2)) F0 H0 (p :: F) B' H' → p ∉ F → p ≠ s → p ≠ t → p ∉ F0 → H' p = some (.lst vs) → DtL B' ds vs → Dt B' d1 v → Dt B' d2 u → tz De (((σ.set i (some v)).set j (some (.ref p))).set l (some u)) H') :
    tSeq (tPar3 i j l (tCons ta (tCons tb (tCons tc tNil)))) tz De σ H :=
  h1 n F0 H0 F H (fun v H1 => tb σ H1 fun u H2 => tc σ H2 fun w H3 => ∃ a b c, [v, u, w] = [a, b, c] ∧ tz De (((σ.set i (some a)).set j (some b)).set l (some c)) H3) (by omega) dj R fun v B1 H1 d1 p1 e1 k1 R1 dv =>
    h2 _ B1 e1 F H1 (fun u H2 => tc σ H2 fun w H3 => ∃ a b c, [v, u, w] = [a, b, c] ∧ tz De (((σ.set i (some a)).set j (some b)).set l (some c)) H3) R1.w fun p vs H2 f g e hd => by
      obtain ⟨Rk, xk, n1, n2⟩ := R1.own g f e rfl
      have ns : p ≠ s := fun z => n2 (by rw [z]; exact List.mem_cons_self)
      have nt : p ≠ t := fun z => n2 (by rw [z]; exact List.mem_cons_of_mem _ List.mem_cons_self)
      refine h3 _ (e1.trans xk) (n + c1) F0 H0 (p :: F) H2 _ (by omega) ⟨fun z => (List.mem_cons.mp z).elim (fun z => ns z.symm) dj.1, fun z => (List.mem_cons.mp z).elim (fun z => nt z.symm) dj.2⟩ Rk fun u B3 H3 d2 p2 e3 k3 R3 du => ?_
      exact ⟨_, _, _, rfl, k v p vs u B3 H3 d1 d2 p1 p2 (R1.fr f) ((e1.trans xk).trans e3) (fun b hb => by rw [k3 b (List.mem_cons_of_mem _ hb), g.x b hb, k1 b hb]) R3 n1 ns nt (fun z => n1 (R1.s p z)) (by rw [k3 p List.mem_cons_self]; exact e) (hd.mono e3.le) ((dv.mono xk.le).mono e3.le) du⟩
/-- an if whose ways meet again -/
theorem r_ifJ {b : Bool} (R : Rn M F0 H0 F B H) (h : EvT M tt σ B b) (J : Hp → Hp → Prop)
    (h1 : b = true → ∀ B' H' (N : L2.St → Hp → Prop), Ex B B' → Go M F H H' → Rn M F0 H0 F B' H' → (∀ B2 H2, Ex B' B2 → J B2 H2 → N σ H2) → tu { De with nx := N } σ H')
    (h2 : b = false → ∀ B' H' (N : L2.St → Hp → Prop), Ex B B' → Go M F H H' → Rn M F0 H0 F B' H' → (∀ B2 H2, Ex B' B2 → J B2 H2 → N σ H2) → tw { De with nx := N } σ H')
    (k : ∀ B' H', Ex B B' → J B' H' → tz De σ H') : tSeq (tIfS tt tu tw) tz De σ H :=
  r_if R h (fun q B' H' e g R' => h1 q B' H' (tz De) e g R' fun B2 H2 e2 j => k B2 H2 (e.trans e2) j) (fun q B' H' e g R' => h2 q B' H' (tz De) e g R' fun B2 H2 e2 j => k B2 H2 (e.trans e2) j)
/-- a draw below what is read exactly -/
theorem x_draw {m : Int} {i : Nat} {E : XK} {Q : VK} (R : Rn (DL.St s t n) F0 H0 F B H) (dj : Dj s t F) (ne : s ≠ t) (hi : σ[i]? = some (some (.ref s))) (hx : XI te σ H m) (h1 : 1 ≤ m) (h2 : m < 1073741824) (hc : n + 1 ≤ 2 ^ 40)
    (k : ∀ j B' H', 0 ≤ j → j < m → Ex B B' → (∀ b ∈ F, H' b = H b) → Rn (DL.St s t (n + 1)) F0 H0 F B' H' → Q (.int j) H') : tCall Sp_draw [] E (tCons (tVar i) (tCons te tNil)) σ H Q :=
  ⟨_, hi, hx _ ⟨s, t, n, F, m, [.int m], rfl, dj, ne, R.w.now, DtL.cons rfl DtL.nil, ⟨h1, h2⟩, hc, fun v H' d pd g2 dv => by
    obtain ⟨j, rfl, h3, h4⟩ := pd
    have ev : v = .int j := dv
    subst ev
    obtain ⟨R2, e2⟩ := R.stepS g2
    exact k j _ H' h3 h4 e2 (fun b hb => g2.x b hb) R2⟩⟩
/-- one of an own list -/
theorem x_pickO {i j : Nat} {E : XK} {Q : VK} {vs : List L2.V} {fs : List (Str × Str)} (R : Rn (DL.St s t n) F0 H0 (p :: F) B H) (dj : Dj s t (p :: F)) (ne : s ≠ t) (np : p ∉ F) (hi : σ[i]? = some (some (.ref s))) (hj : σ[j]? = some (some (.ref p))) (hp : H p = some (.lst vs)) (hd : DtL B (fs.map pD) vs) (h1 : 1 ≤ fs.length) (h2 : fs.length ≤ 1000) (hc : n + 1 ≤ 2 ^ 40)
    (k : ∀ q ∈ fs, ∀ v B' H', Ex B B' → (∀ b ∈ p :: F, H' b = H b) → Rn (DL.St s t (n + 1)) F0 H0 (p :: F) B' H' → Dt B' (pD q) v → Q v H') : tCall Sp_pick [] E (tCons (tVar i) (tCons (tVar j) tNil)) σ H Q := by
  have ns : p ∉ (DL.St s t n).S := fun z => by
    rcases List.mem_cons.mp z with z | z
    · exact dj.1 (by rw [← z]; exact List.mem_cons_self)
    · rw [List.mem_singleton] at z; exact dj.2 (by rw [← z]; exact List.mem_cons_self)
  have e0 : Ex B (Hd (DL.St s t n) F H) := R.w.e.trans (hd_sub fun b hb => List.mem_cons_of_mem _ hb)
  have hpv : Hd (DL.St s t n) F H p = some (.lst vs) := hd_some.mpr ⟨⟨ns, np⟩, hp⟩
  refine ⟨_, hi, _, hj, s, t, n, F, ⟨.lst (fs.map pD), fs.map pD⟩, [.ref p], rfl, ⟨fun z => dj.1 (List.mem_cons_of_mem _ z), fun z => dj.2 (List.mem_cons_of_mem _ z)⟩, ne, ⟨Ex.refl _, R.w.i, fun b hb => R.w.f b (List.mem_cons_of_mem _ hb)⟩, DtL.cons (lst_mk hpv (hd.mono e0.le)) DtL.nil, ⟨rfl, by rw [List.length_map]; exact h1, by rw [List.length_map]; exact h2⟩, hc, fun v H' d pd g2 dv => ?_⟩
  obtain ⟨q, hq, rfl⟩ := List.mem_map.mp (show d ∈ fs.map pD from pd)
  have hp' : H' p = some (.lst vs) := (hd_some.mp (g2.e p _ hpv rfl)).2
  have ee : Ex B (Hd (DL.St s t (n + 1)) (p :: F) H') := fun b o hb nt => by
    obtain ⟨q1, q2⟩ := hd_some.mp (R.w.e b o hb nt)
    have z : b ∉ F := fun z => q1.2 (List.mem_cons_of_mem _ z)
    have := (hd_some.mp (g2.e b o (hd_some.mpr ⟨⟨q1.1, z⟩, q2⟩) nt)).2
    exact hd_some.mpr ⟨⟨q1.1, q1.2⟩, this⟩
  have xx : ∀ b ∈ p :: F, H' b = H b := fun b hb => by
    rcases List.mem_cons.mp hb with z | z
    · rw [z, hp', hp]
    · exact g2.x b z
  refine k q hq v _ H' ee xx ⟨⟨Ex.refl _, g2.i, fun b hb => ?_⟩, R.e0.trans ee, R.s, fun b hb => by rw [xx b (R.s b hb), R.x b hb]⟩ ?_
  · obtain ⟨o, ho, nt⟩ := R.w.f b hb
    exact ⟨o, by rw [xx b hb]; exact ho, nt⟩
  · obtain ⟨a, ws, rfl, ha, hl⟩ := tup_inv (show Dt _ (.tup [.str q.1, .str q.2]) v from dv)
    obtain ⟨x, y, rfl, hx, hy⟩ := two_inv hl
    obtain ⟨q1, q2⟩ := hd_some.mp ha
    refine tup_mk (hd_some.mpr ⟨⟨q1.1, fun z => ?_⟩, q2⟩) (DtL.cons hx (DtL.cons hy DtL.nil))
    rcases List.mem_cons.mp z with z | z
    · rw [z, hp'] at q2; cases q2
    · exact q1.2 z
def ePair (p : Str × Str) : PyData := .tuple [.str p.1, .str p.2]
theorem dp_pair (H : Hp) (v : L2.V) (a : Str × Str) (h : Dt H (pD a) v) : Dp K H v (ePair a) := by
  obtain ⟨p, vs, rfl, hp, hl⟩ := tup_inv (show Dt H (.tup [.str a.1, .str a.2]) v from h)
  obtain ⟨x, y, rfl, hx, hy⟩ := two_inv hl
  have ex : x = .str a.1 := hx
  have ey : y = .str a.2 := hy
  subst ex; subst ey
  exact .tup (SqT.of hp) (.cons (.str _) (.cons (.str _) .nil))
theorem shaped_pairs {fs : List (Str × Str)} (h : ∀ q ∈ fs, Asc q.1 ∧ Asc q.2) : SeqAt.shaped (.list (fs.map ePair)) = true := by
  have e1 : PyData.canLayAll0 (fs.map ePair) = true ∧ PyData.depthAll (fs.map ePair) ≤ 1 := by
    induction fs with
    | nil => exact ⟨rfl, by show 0 ≤ 1; decide⟩
    | cons a l ih =>
      obtain ⟨i1, i2⟩ := ih fun q hq => h q (List.mem_cons_of_mem _ hq)
      have ha := h a List.mem_cons_self
      constructor
      · show (PyData.canLayAll0 [.str a.1, .str a.2] && PyData.canLayAll0 (l.map ePair)) = true
        rw [i1, Bool.and_true]
        show (PyData.strOk a.1 && (PyData.strOk a.2 && true)) = true
        rw [ha.1.ok, ha.2.ok]; rfl
      · show max (PyData.depth (ePair a)) (PyData.depthAll (l.map ePair)) ≤ 1
        have : PyData.depth (ePair a) = 1 := by simp [ePair, PyData.depth, PyData.depthAll]
        omega
  unfold SeqAt.shaped
  rw [Bool.and_eq_true]
  refine ⟨e1.1, decide_eq_true ?_⟩
  show PyData.depthAll (fs.map ePair) + 1 ≤ 64
  have := e1.2
  omega
/-- xs == [], xs ours, of pairs -/
theorem x_eqNil {i : Nat} {vs : List L2.V} {fs : List (Str × Str)} {Q : Bool → Hp → Prop} (R : Rn M F0 H0 F B H) (hi : σ[i]? = some (some (.ref p))) (hp : H p = some (.lst vs)) (hd : DtL B (fs.map pD) vs) (ho : ∀ q ∈ fs, Asc q.1 ∧ Asc q.2) (hne : fs ≠ [])
    (k : ∀ B' H', Ex B B' → (∀ b ∈ F, H' b = H b) → Rn M F0 H0 F B' H' → Q false H') : tTest (tOp (rEqD K) (tVar i) (tLst tNil)) σ H Q := by
  refine ⟨_, hi, Nat.zero_le _, fun q hq => ?_⟩
  have g := R.w.new hq (.lst [])
  have npq : p ≠ q := fun z => by rw [← z, hp] at hq; cases hq
  have hp2 : upd H q (.lst []) p = some (.lst vs) := by rw [upd_ne npq]; exact hp
  refine ⟨.list (fs.map ePair), .list [], .lst (SqL.of hp2) (RX.dpall_of (en := pD) (ep := ePair) dp_pair (((hd.mono R.w.e.le).mono hd_le).mono (ex_new hq).le)), .lst (SqL.of upd_same) .nil, shaped_pairs ho, rfl, _, rfl, ?_⟩
  have e : PyData.eqv (.list (fs.map ePair)) (.list []) = false := by
    cases fs with
    | nil => exact absurd rfl hne
    | cons a l => rfl
  rw [e]
  exact k _ _ (R.ext g) (fun b hb => g.x b hb) (R.step g)
theorem r_forSIx (hi : ∀ (Rr : It → Hp → Prop), (∀ J ys B' H', PI ys → Ex B B' → (∀ b ∈ F, H' b = H b) → Rn (DL.St s t (n + c)) F0 H0 F B' H' → WkD M0 B' J ys → Rr J H') → wi σ H Rr) (R : Rn (DL.St s t n) F0 H0 F B H) (Iv : List D → Nat → L2.St → Hp → Hp → Prop) (hR : ∀ ys i σ B H, Iv ys i σ B H → ∃ n, Rn (DL.St s t n) F0 H0 F B H)
    (h0 : ∀ ys B' H', PI ys → Ex B B' → (∀ b ∈ F, H' b = H b) → Rn (DL.St s t (n + c)) F0 H0 F B' H' → Iv ys 0 σ B' H')
    (hs : ∀ ys i d x σ' Bb B1 H1 B2 H2, PI ys → Ex B Bb → Ex Bb B1 → ys[i]? = some d → Iv ys i σ' B1 H1 → Ex B1 B2 → (∀ b ∈ F, H2 b = H1 b) → (∀ n, Rn (DL.St s t n) F0 H0 F B1 H1 → Rn (DL.St s t n) F0 H0 F B2 H2) → Dt B2 d x →
      g x σ' H2 fun σ2 H3 => tu { De with nx := Lp (Iv ys) Bb (i + 1), ct := Lp (Iv ys) Bb (i + 1), bk := tz De } σ2 H3)
    (hd : ∀ ys σ' B' H', PI ys → Ex B B' → Iv ys ys.length σ' B' H' → tz De σ' H') : tSeq (tFor wi g tu) tz De σ H :=
  hi _ fun J ys B1 H1 pi e1 k1 R1 wk => by
    obtain ⟨G, Y, w, hG, hY⟩ := wk.ex
    refine for_it (D := { De with nx := tz De }) w (Lp (Iv ys) B1) ⟨_, Ex.refl _, h0 ys _ H1 pi e1 k1 R1⟩ ?_ ?_ ?_
    · rintro i σ' H' _ ⟨B', e, q⟩
      obtain ⟨n', R'⟩ := hR _ _ _ _ _ q
      exact hG _ H' ⟨e.trans (wdS R'.w).e, True.intro, (wdS R'.w).f⟩
    · rintro i x σ' H2 H3 hlt ⟨B', e, q⟩ y
      obtain ⟨n', R'⟩ := hR _ _ _ _ _ q
      have W' : Wd M0 ((DL.St s t n').S ++ F) B1 H2 := ⟨e.trans (wdS R'.w).e, True.intro, (wdS R'.w).f⟩
      obtain ⟨g3, d, hd', dx⟩ := hY _ i H2 x H3 hlt W' y
      obtain ⟨g3', dx'⟩ := goT (J := J) (ys := ys) (Y := Y) (i := i) (H1 := H1) R' g3 dx
      exact hs ys i d x σ' _ B' H2 _ H3 pi e1 e hd' q (R'.ext g3') (fun b hb => g3'.x b hb) (fun n2 R2 => R2.step (go_app R2.w g3)) dx'
    · rintro σ' H' ⟨B', e, q⟩
      exact hd ys σ' B' H' pi (e1.trans e) q
/-- tuple(a list) -/
abbrev rTupO (K : PySem.W.Frag) : List L2.V → Hp → VK → Prop := fun xs H Q => ∃ p ys, xs = [.ref p] ∧ ((SqL K H p ys ∧ ∀ l, H l = none → Q (.ref l) (upd H l (.tup ys))) ∨ (SqT K H p ys ∧ Q (.ref p) H))
theorem rc_tupO {l : List D} : RC M (rTupO K) [.lst l] (.tup l) := fun F B H vs Q W e k => by
  obtain ⟨v, rfl, e1⟩ := one_inv e
  obtain ⟨a, vs, rfl, ha, hl⟩ := lst_inv e1
  exact ⟨a, vs, rfl, .inl ⟨SqL.of (hdL ha), fun q hq => k _ _ (W.new hq _) (tup_mk (hd_some.mpr ⟨W.nS (DL.Fr.of hq), upd_same⟩) (hl.mono (W.new hq _).le))⟩⟩
end
end Pg

namespace Pg
open PySem PySem.Spec PyProof.Rows L2 DL RX RZ LiI
section
variable {P : Program} {w : World} {K : PySem.W.Frag} {mg : Str → Option Value} {base : Heap} {f C : Addr} {fd : FuncData} {M : Md} {σ : L2.St} {B : Hp} {te ta tb : TE} {V : Vl} {d : D} {F0 F : List Addr} {H0 H : Hp} {De : Ends} {tz : TS}
theorem ev_vi {i : Nat} {k : Int} (h : σ[i]? = some (some (.int k))) : Ev M (tVar i) σ B (.int k) := ev_var h rfl
theorem ev_vs {i : Nat} {k : Str} (h : σ[i]? = some (some (.str k))) : Ev M (tVar i) σ B (.str k) := ev_var h rfl
theorem i_if {tt : TT} {Q : VK} (h : tt σ H fun b H1 => if b = true then ta σ H1 Q else tb σ H1 Q) : tIf tt ta tb σ H Q := h
theorem i_or {tt tw : TT} {Q : Bool → Hp → Prop} (h : tt σ H fun b H1 => if b = true then Q true H1 else tw σ H1 Q) : tOr tt tw σ H Q := h
theorem i_cons {tr : TA} {Q : List L2.V → Hp → Prop} (h : ta σ H fun v H1 => tr σ H1 fun vs H2 => Q (v :: vs) H2) : tCons ta tr σ H Q := h
abbrev rMax2 : List L2.V → Hp → VK → Prop := fun xs H Q => ∃ i j, xs = [.int i, .int j] ∧ Q (.int (if j > i then j else i)) H
theorem xi_max {i j : Int} (ha : XI ta σ H i) (hb : XI tb σ H j) : XI (tCB rMax2 (tCons ta (tCons tb tNil))) σ H (if j > i then j else i) := fun Q q => ha _ (hb _ ⟨i, j, rfl, q⟩)
abbrev Sp_village := SpS (α := Int × Int) (fun _ => 1000) (fun p => [.int p.1, .int p.2]) (fun p => 1 ≤ p.1 ∧ p.1 ≤ 16 ∧ 0 ≤ p.2 ∧ p.2 ≤ 16) (fun p d => ∃ V : Vl, d = lvD V ∧ VSo V ∧ ((V.ns.length : Nat) : Int) ≤ p.1)
abbrev N_village : List Str := ["stream", "houses", "lanes", "names", "mixed", "found", "way", "at", "k", "lane"]
theorem ok_village {a1 a2 a3 a4 : Addr} (F : Fun K "_law_village" "_law_village" s_law_village f fd) (N : Bn mg) (g1 : mg "_law_draw" = some (.ref a1)) (O1 : OkF P w K mg base 1 a1 ["stream", "many"] Sp_draw) (g2 : mg "_law_pick" = some (.ref a2)) (O2 : OkF P w K mg base 2 a2 ["stream", "things"] Sp_pick)
    (g3 : mg "_law_mixed" = some (.ref a3)) (O3 : OkF P w K mg base 2 a3 ["stream", "things"] Sp_mixed) (g4 : mg "_law_names" = some (.ref a4)) (O4 : OkF P w K mg base 3 a4 ["stream", "many"] Sp_names) :
    FnOk P w K mg base CX0 4 f fd ["stream", "houses", "lanes"] Sp_village := by
  refine F.ok sc_law_village (SpS.len fun _ => rfl) (fun cdv A outer s H vs Q E hr h => ?_)
  obtain ⟨st, t, n, F0, ⟨hh, ll⟩, ws, rfl, dj, ne, W, hw, ⟨hm1, hm2, hm3, hm4⟩, hc, kf⟩ := h
  obtain ⟨x, y, rfl, hx, hy⟩ := two_inv hw
  have ex : x = .int hh := hx
  subst ex
  have ey : y = .int ll := hy
  subst ey
  have hu10 : (A.deeper (envOfC "_law_village" (defScope s_law_village) s.heap.objs.size f cdv)).units + 10 < cLine := by have := hr.units; omega
  refine ⟨_, pss_cons (ps_set (i := 3) sc_law_village.nd rfl (Or.inl rfl) (pe_c O4 hr g4 (pa_cons (pv 0) (pa_cons (pe_op op_add pe_int (pe_c O1 (hr.mono (by decide)) g1 (pa_cons (pv 0) (pa_cons (pv 1) pa_nil)))) pa_nil))))
    (pss_cons (ps_par3 (i := 4) (j := 5) (l := 6) (by rfl) sc_law_village.nd rfl rfl rfl (by decide) (by decide) (by decide) rfl rfl rfl (pa_cons (pe_c O3 (hr.mono (by decide)) g3 (pa_cons (pv 0) (pa_cons (pv 3) pa_nil))) (pa_cons (pe_lst pa_nil) (pa_cons (pe_c O1 (hr.mono (by decide)) g1 (pa_cons (pv 0) (pa_cons pe_int pa_nil))) pa_nil))) (by rfl))
    (pss_cons (ps_for PassesOwn.never (by rfl) (pi_range2 (by rfl) N.range (pa_cons pe_int (pa_cons (pe_callB call_len_seq (by rfl) N.len PySem.boot_len (pa_cons (pv 4) pa_nil)) pa_nil))) (pg_name (i := 7) sc_law_village.nd rfl (Or.inl rfl))
      (pss_one (ps_expr (pe_bm PySem.F.plainAttrs_list PySem.F.slot_list_append PySem.F.type_list_append mt_append (pv 5) (pa_cons (pe_tup (pa_cons (pe_ix ix_seq (pv 4) (pv 7) (fun _ _ => rfl)) (pa_cons (pe_ix ix_seq (pv 4) (pe_ifExp (pt_cmpR op_lt (pv 6) pe_int (nomark _)) (pe_op op_sub (pv 7) pe_int) (pe_c O1 (hr.mono (by decide)) g1 (pa_cons (pv 0) (pa_cons (pv 7) pa_nil)))) (fun _ _ => rfl)) pa_nil))) pa_nil)))))
    (pss_cons (ps_if (pw_and (pt_cmpR op_eq (pv 6) pe_int (nomark _)) (pw_and1 (pt_cmpR op_gt (pe_callB call_len_seq (by rfl) N.len PySem.boot_len (pa_cons (pv 4) pa_nil)) pe_int (nomark _)))).pt
      (pss_one (ps_expr (pe_bm PySem.F.plainAttrs_list PySem.F.slot_list_append PySem.F.type_list_append mt_append (pv 5) (pa_cons (pe_tup (pa_cons (pe_ix ix_seq (pv 4) pe_int (fun _ _ => rfl)) (pa_cons (pe_ix ix_seq (pv 4) (pe_un un_neg pe_int) (fun _ _ => rfl)) pa_nil))) pa_nil)))) pss_nil)
    (pss_cons (ps_for PassesOwn.never (by rfl) (pi_range1 (by rfl) N.range (pa_cons (pe_ifExp (pt_cmpR op_gt (pe_callB call_len_seq (by rfl) N.len PySem.boot_len (pa_cons (pv 3) pa_nil)) pe_int (nomark _)) (pe_c O1 (hr.mono (by decide)) g1 (pa_cons (pv 0) (pa_cons (pe_op op_add (pe_callB (call_max2 rfl) (by rfl) N.max (by decide +kernel) (pa_cons (pe_op op_sub (pv 2) (pe_callB call_len_seq (by rfl) N.len PySem.boot_len (pa_cons (pv 5) pa_nil))) (pa_cons pe_int pa_nil))) pe_int) pa_nil))) pe_int) pa_nil)) (pg_name (i := 8) sc_law_village.nd rfl (Or.inl rfl))
      (pss_one (ps_expr (pe_bm PySem.F.plainAttrs_list PySem.F.slot_list_append PySem.F.type_list_append mt_append (pv 5) (pa_cons (pe_ifExp (pw_or (pt_cmpR (op_eqD hr.units) (pv 5) (pe_lst pa_nil) (nomark _)) (pw_or1 (pt_cmpR op_gt (pe_c O1 (hr.mono (by decide)) g1 (pa_cons (pv 0) (pa_cons pe_int pa_nil))) pe_int (nomark _)))).pt (pe_callTy call_tuple_of (by rfl) N.tuple (by decide +kernel) (pa_cons (pe_slice sl_list (pe_c O3 (hr.mono (by decide)) g3 (pa_cons (pv 0) (pa_cons (pv 3) pa_nil))) po_none (po_some pe_int)) pa_nil)) (pe_c O2 (hr.mono (by decide)) g2 (pa_cons (pv 0) (pa_cons (pv 5) pa_nil)))) pa_nil)))))
    (pss_one (ps_ret (pe_tup (pa_cons (pe_callB (cr_sortD hu10) (by rfl) N.sorted (by decide +kernel) (pa_cons (pv 3) pa_nil)) (pa_cons (pe_callB (cr_sortD hu10) (by rfl) N.sorted (by decide +kernel) (pa_cons (pe_lc (te := tTup (tCons (tCB (rMM K minS) (tCons (tVar 9) tNil)) (tCons (tCB (rMM K maxS) (tCons (tVar 9) tNil)) tNil))) (own := [("lane", 9)]) (g := gName 9) (by rfl) sc_law_village.nd (pi_seq (pv 5)) (blkOk_by (own := [("lane", 9)]) (N := N_village) (sc := defScope s_law_village) (by decide +kernel)) (fun _ _ _ _ _ => pg_name (i := 9) sc_law_village.nd rfl (Or.inl rfl)) (fun _ _ _ _ _ => pts_nil) (fun _ _ _ _ _ => (by exact (pe_tup (pa_cons (pe_callB (cr_minS rfl hu10) (by rfl) N.min (by decide +kernel) (pa_cons (pv 9) pa_nil)) (pa_cons (pe_callB (cr_maxS rfl hu10) (by rfl) N.max (by decide +kernel) (pa_cons (pv 9) pa_nil)) pa_nil)))))) pa_nil)) pa_nil))))))))), ?_⟩
  have hm1 : 1 ≤ hh := hm1
  have hm2 : hh ≤ 16 := hm2
  have hm3 : 0 ≤ ll := hm3
  have hm4 : ll ≤ 16 := hm4
  have hc : n + 1000 ≤ 2 ^ 40 := hc
  have hsz : (1200 : Nat) < sizeLine := by decide
  have hll : ∀ {B' : Hp} {M : Md} {σ : L2.St}, σ[2]? = some (some (.int ll)) → Ev M (tVar 2) σ B' (.int ll) := fun h => ev_var h rfl
  -- the names
  have evn : EvS st t 81 (tCall Sp_names [] E0 (tCons (tVar 0) (tCons (tOp (rI0 fun i j => .int (i + j)) (tC (.int 1)) (tCall Sp_draw [] E0 (tCons (tVar 0) (tCons (tVar 1) tNil)))) tNil))) (L2.start N_village [.ref st, .int hh, .int ll]) (Hd (DL.St st t n) F0 H) (fun d => ∃ ns : List Str, d = .lst (ns.map .str) ∧ 1 ≤ ns.length ∧ ((ns.length : Nat) : Int) ≤ hh ∧ ns.Nodup ∧ ∀ s ∈ ns, nmOk s) := by
    refine EvS.le (c0 := (0 + 1) + 80) (es_call (c2 := 80) (PA := fun ds => ∃ d, ds = [d] ∧ intIn 1 (hh + 1) d) ne rfl (esa_one (es_op (P2 := intIn 0 hh) (es_ev fun n' => ev_int) (fun B' e => es_draw0 ne rfl (fun n' => ev_vi rfl) hm1 (by omega)) ?_)) ?_) (by omega)
    · rintro x y rfl ⟨i, rfl, h0, h1⟩
      exact ⟨.int (1 + i), ⟨1 + i, rfl, by omega, by omega⟩, fun M => rv_I0 rfl⟩
    · rintro ds ⟨d, rfl, i, rfl, h1, h2⟩
      refine ⟨i, rfl, ⟨h1, by omega⟩, (by omega : 5 * i.toNat ≤ 80), fun d ⟨ns, e, hl, hnd, hno⟩ => ⟨ns, e, by omega, by omega, hnd, hno⟩⟩
  refine r_setS evn (Rn.begin W) dj (by omega) fun v3 B1 H1 d1 ⟨ns, ed1, hn1, hnh, hnd, hno⟩ e1 k1 R1 dv3 => ?_
  subst ed1
  refine r_par3SFS (ds := []) (es_mixed0 (th := .lst (ns.map .str)) ne rfl (fun n' => ev_var rfl dv3) rfl (by rw [List.length_map]; omega)) (fun n' B' e => ef_lst ea_nil (Nat.zero_le _)) (fun B' e => es_draw0 (m := 4) ne rfl (fun n' => ev_int) (by omega) (by omega)) R1 dj (by rw [List.length_map]; omega)
    fun v4 p vs v6 B2 H2 d4 d6 ⟨l4, ed4, pm4⟩ ⟨way, ed6, hw0, hw4⟩ fp e2 k2 R2 nF ns1 ns2 nF0 hp hd dv4 dv6 => ?_
  subst ed4; subst ed6
  obtain ⟨ms, rfl, pms⟩ := perm_strs pm4
  have ev6 : v6 = .int way := dv6
  subst ev6
  have hvs : vs = [] := DtL.nil_inv hd
  subst hvs
  rw [List.length_map] at R2
  have hlen : ms.length = ns.length := pms.length_eq
  have hmnd : ms.Nodup := pms.symm.nodup hnd
  have hmo : ∀ s ∈ ms, nmOk s := fun s hs => hno s (pms.mem_iff.mp hs)
  have hasc : ∀ s ∈ ms, Asc s := fun s hs => name_asc (nm_name (hmo s hs))
  have dj' : Dj st t (p :: F0) := ⟨fun z => (List.mem_cons.mp z).elim (fun z => ns1 z.symm) dj.1, fun z => (List.mem_cons.mp z).elim (fun z => ns2 z.symm) dj.2⟩
  have h16 : ns.length ≤ 16 := by omega
  -- the tree
  refine r_forSI (c := 0) (PI := fun l => l = rangeD 1 (((ms.length : Nat) : Int) - 1).toNat) (esi_ei (ei_rng2 (lo := 1) (n := ((ms.length : Nat) : Int)) (ea_cons ev_int (ea_cons (ev_is (ev_cb (ea_cons (ev_var rfl dv4) ea_nil) (rc_len rfl)) (by rw [List.length_map])) ea_nil)) (by omega))) R2 dj' (by omega)
    (fun ys i σ B' H' => ∃ (fs : List (Str × Str)) (vs : List L2.V) (v7 : Option L2.V), σ = [some (.ref st), some (.int hh), some (.int ll), some v3, some v4, some (.ref p), some (.int way), v7, none, none] ∧ Rn (DL.St st t (n + 81 + ns.length + 1 + i)) F0 H (p :: F0) B' H' ∧ H' p = some (.lst vs) ∧ DtL B' (fs.map pD) vs ∧ fs.length = i ∧ (∀ q ∈ fs, q.1 ∈ ms ∧ q.2 ∈ ms ∧ q.1 ≠ q.2) ∧ Tree ms fs (i + 1))
    (fun ys i σ B' H' ⟨_, _, _, _, R, _⟩ => ⟨_, R⟩) (fun ys B' H' py e kk R => ⟨[], [], none, rfl, R, by rw [kk p List.mem_cons_self]; exact hp, DtL.nil, rfl, fun q hq => (by cases hq), fun i h1 h2 => by omega⟩) ?_ ?_
  · rintro ys i d xv σ' Bb B1' H1' B3 H3 rfl eb eb1 hd' ⟨fs, vs, v7, rfl, Ri, hpi, hdi, hfl, hfm, hT⟩ e3 k3 up3 dx
    have hi1 := (List.getElem?_eq_some_iff.mp hd').1
    rw [rangeD_length] at hi1
    have exv : xv = .int (1 + ((i : Nat) : Int)) := by
      unfold rangeD at hd'
      rw [List.getElem?_map, List.getElem?_range hi1] at hd'
      have : d = .int (1 + (i : Nat)) := (Option.some.inj hd').symm
      subst this
      exact dx
    subst exv
    have him : i + 1 < ms.length := by omega
    have R3 := up3 _ Ri
    have hp3 : H3 p = some (.lst vs) := by rw [k3 p List.mem_cons_self]; exact hpi
    have dv43 := dv4.mono (((eb.trans eb1).trans e3)).le
    have hdi3 := hdi.mono e3.le
    have evt : EvS st t 1 (tTup (tCons (tOp (rIx K) (tVar 4) (tVar 7)) (tCons (tOp (rIx K) (tVar 4) (tIf (tTest (tOp (rI0 fun i j => .bl (decide (i < j))) (tVar 6) (tC (.int 2)))) (tOp (rI0 fun i j => .int (i - j)) (tVar 7) (tC (.int 1))) (tCall Sp_draw [] E0 (tCons (tVar 0) (tCons (tVar 7) tNil))))) tNil)))
        [some (.ref st), some (.int hh), some (.int ll), some v3, some v4, some (.ref p), some (.int way), some (.int (1 + ((i : Nat) : Int))), none, none] B3 (fun d => ∃ a b j, d = pD (a, b) ∧ ms[i + 1]? = some a ∧ ms[j]? = some b ∧ j < i + 1) := by
      obtain ⟨a, ha⟩ : ∃ a, ms[i + 1]? = some a := ⟨_, List.getElem?_eq_getElem him⟩
      refine (es_tup (PA := fun ds => ∃ d r, ds = d :: r ∧ d = .str a ∧ ∃ d2, r = [d2] ∧ ∃ b j, d2 = .str b ∧ ms[j]? = some b ∧ j < i + 1) (EvSA.imp (PA' := fun ds => ∃ d r, ds = d :: r ∧ d = .str a ∧ ∃ d2, r = [d2] ∧ ∃ b j, d2 = .str b ∧ ms[j]? = some b ∧ j < i + 1) (esa_cons (c1 := 0) (c2 := 0 + (0 + 1)) (es_ev (d := .str a) fun n' => ev_op (d2 := .int (((i + 1 : Nat) : Nat) : Int)) (ev_var rfl dv43) (ev_var rfl (show L2.V.int (1 + ((i : Nat) : Int)) = L2.V.int (((i + 1 : Nat) : Nat) : Int) from congrArg _ (by omega))) (rv_ix rfl (at_strs ha))) fun B' e => esa_one (es_op (P2 := intIn 0 (1 + ((i : Nat) : Int))) (es_ev (d := .lst (ms.map .str)) fun n' => ev_var rfl (dv43.mono e.le)) (fun B'' e' => es_if (est_et (b := decide (way < 2)) fun n' => et_cmp (ev_op (ev_vi rfl) ev_int (rv_I0 rfl))) (fun B4 e4 pb => ?_) (fun B4 e4 pb => es_draw0 (m := 1 + ((i : Nat) : Int)) ne rfl (fun n' => ev_vi rfl) (by omega) (by omega))) ?_)) (fun ds h => h)) ?_).imp ?_
      · exact EvS.le (c0 := 0) ((es_ev (d := .int (1 + ((i : Nat) : Int) - 1)) fun n' => ev_op (ev_vi rfl) ev_int (rv_I0 rfl)).imp fun d e => ⟨_, e, by omega, by omega⟩) (by omega)
      · rintro x y rfl ⟨j, rfl, hj0, hj1⟩
        obtain ⟨b, hb⟩ : ∃ b, ms[j.toNat]? = some b := ⟨_, List.getElem?_eq_getElem (by omega)⟩
        refine ⟨.str b, ⟨b, j.toNat, rfl, hb, by omega⟩, fun M => rv_ix rfl ?_⟩
        have := at_strs hb
        rw [Int.toNat_of_nonneg hj0] at this
        exact this
      · rintro ds ⟨d, r, rfl, rfl, d2, rfl, _⟩
        show 2 ≤ sizeLine
        decide
      · rintro d ⟨ds, rfl, d1, r, rfl, rfl, d2, rfl, b, j, rfl, hb, hj⟩
        exact ⟨a, b, j, rfl, ha, hb, hj⟩
    refine r_appS evt R3 dj' (by omega) List.mem_cons_self nF0 rfl hp3 (by rw [hdi3.length, List.length_map, hfl]; omega) fun v8 B5 H5 d8 ⟨a, b, j, ed8, ha, hb, hj⟩ e5 R5 hb5 dv8 => ?_
    subst ed8
    refine ⟨B5, (eb1.trans e3).trans e5, fs ++ [(a, b)], _, _, rfl, R5.upS (by omega), upd_same, ?_, by rw [List.length_append, hfl]; rfl, ?_, ?_⟩
    · rw [List.map_append]
      exact DtL.append (hdi3.mono e5.le) (DtL.cons dv8 DtL.nil)
    · intro q hq
      rcases List.mem_append.mp hq with hq | hq
      · exact hfm q hq
      · rw [List.mem_singleton] at hq
        subst hq
        refine ⟨List.mem_of_getElem? ha, List.mem_of_getElem? hb, fun z => ?_⟩
        have z : a = b := z
        subst z
        have := nodup_at hmnd ha hb
        omega
    · intro i2 h1 h2
      by_cases z : i2 < i + 1
      · obtain ⟨a', b', j', q1, q2, q3, q4⟩ := hT i2 h1 z
        exact ⟨a', b', j', q1, q2, q3, List.mem_append_left _ q4⟩
      · have : i2 = i + 1 := by omega
        subst this
        exact ⟨a, b, j, ha, hb, hj, List.mem_append_right _ (by simp)⟩
  · rintro ys σ' B3 H3 rfl e3 ⟨fs, vs, v7, rfl, R3, hp3, hd3, hfl, hfm, hT⟩
    rw [rangeD_length] at R3 hfl hT
    have hT' : Tree ms fs ms.length := fun i h1 h2 => hT i h1 (by omega)
    have hflb : fs.length ≤ 15 := by omega
    have dv43 := dv4.mono e3.le
    have dv33 := (dv3.mono e2.le).mono e3.le
    have R3' : Rn (DL.St st t (n + 200)) F0 H (p :: F0) B3 H3 := R3.upS (by omega)
    -- perhaps a ring
    refine r_ifJ (b := decide (way = 1) && decide (2 < ((ms.length : Nat) : Int))) R3' (et_and (et_cmp (ev_op (ev_vi rfl) ev_int rv_eqI)) fun _ => et_is (et_cmp (ev_op (ev_cb (ea_cons (ev_var rfl dv43) ea_nil) (rc_len rfl)) ev_int (rv_I0 rfl))) (by rw [List.length_map]))
      (fun B' H' => ∃ (fs : List (Str × Str)) (vs : List L2.V), Rn (DL.St st t (n + 200)) F0 H (p :: F0) B' H' ∧ H' p = some (.lst vs) ∧ DtL B' (fs.map pD) vs ∧ fs.length ≤ 16 ∧ (2 ≤ ms.length → 1 ≤ fs.length) ∧ (∀ q ∈ fs, q.1 ∈ ms ∧ q.2 ∈ ms ∧ q.1 ≠ q.2) ∧ Tree ms fs ms.length) (fun q B4 H4 Nn e4 g4 R4 kn => ?_) (fun q B4 H4 Nn e4 g4 R4 kn => ?_) ?_
    · have hl2 : 2 < ms.length := by
        rw [Bool.and_eq_true] at q
        have := of_decide_eq_true q.2
        omega
      obtain ⟨a, ha⟩ : ∃ a, ms[0]? = some a := ⟨_, List.getElem?_eq_getElem (by omega)⟩
      obtain ⟨b, hb⟩ : ∃ b, ms[ms.length - 1]? = some b := ⟨_, List.getElem?_eq_getElem (by omega)⟩
      have dv44 := dv43.mono e4.le
      have hp4 : H4 p = some (.lst vs) := by rw [g4.x p List.mem_cons_self]; exact hp3
      have hd4 := hd3.mono e4.le
      refine r_appS (c := 0) (es_ev (d := pD (a, b)) fun n' => ev_tup (ea_cons (ev_op (ev_var rfl dv44) ev_int (rv_ix rfl (at_strs ha))) (ea_cons (ev_op (ev_var rfl dv44) (ev_un ev_int ru_neg) (rv_ix rfl (at_lastS hb (by omega)))) ea_nil)) (show (2 : Nat) ≤ sizeLine by decide)) R4 dj' (by omega) List.mem_cons_self nF0 rfl hp4 (by rw [hd4.length, List.length_map]; omega) fun v8 B5 H5 d8 ed8 e5 R5 hb5 dv8 => ?_
      subst ed8
      refine kn B5 _ e5 ⟨fs ++ [(a, b)], _, R5, upd_same, ?_, by rw [List.length_append, List.length_singleton]; omega, fun _ => by rw [List.length_append, List.length_singleton]; omega, ?_, fun i h1 h2 => ?_⟩
      · rw [List.map_append]
        exact DtL.append (hd4.mono e5.le) (DtL.cons dv8 DtL.nil)
      · intro q hq
        rcases List.mem_append.mp hq with hq | hq
        · exact hfm q hq
        · rw [List.mem_singleton] at hq
          subst hq
          refine ⟨List.mem_of_getElem? ha, List.mem_of_getElem? hb, fun z => ?_⟩
          have z : a = b := z
          subst z
          have := nodup_at hmnd ha hb
          omega
      · obtain ⟨a', b', j', q1, q2, q3, q4⟩ := hT' i h1 h2
        exact ⟨a', b', j', q1, q2, q3, List.mem_append_left _ q4⟩
    · exact kn B4 H4 (Ex.refl _) ⟨fs, vs, R4, by rw [g4.x p List.mem_cons_self]; exact hp3, hd3.mono e4.le, by omega, fun _ => by omega, hfm, hT'⟩
    clear R3 R3' hp3 hd3 hfl hfm hT hT' hflb vs fs
    rintro B4 H4 e4 ⟨fs, vs, R4, hp4, hd4, hfl, hf1, hfm, hT⟩
    have dv34 := dv33.mono e4.le
    have hlv : vs.length = fs.length := by rw [hd4.length, List.length_map]
    -- more lanes
    have nS' : ∀ m, p ∉ (DL.St st t m).S := fun m z => by
      rcases List.mem_cons.mp z with z | z
      · exact ns1 z
      · rw [List.mem_singleton] at z; exact ns2 z
    refine r_forSIx (c := 1) (PI := fun ys => ys.length ≤ 16 ∧ (1 ≤ ys.length → 2 ≤ ns.length)) (fun Rr kr => ?_) R4
      (fun ys i σ B' H' => ∃ (fs : List (Str × Str)) (vs : List L2.V) (v7 v8 : Option L2.V), σ = [some (.ref st), some (.int hh), some (.int ll), some v3, some v4, some (.ref p), some (.int way), v7, v8, none] ∧ Rn (DL.St st t (n + 201 + 17 * i)) F0 H (p :: F0) B' H' ∧ H' p = some (.lst vs) ∧ DtL B' (fs.map pD) vs ∧ fs.length ≤ 16 + i ∧ (2 ≤ ms.length → 1 ≤ fs.length) ∧ (∀ q ∈ fs, q.1 ∈ ms ∧ q.2 ∈ ms ∧ q.1 ≠ q.2) ∧ Tree ms fs ms.length)
      (fun ys i σ B' H' ⟨_, _, _, _, _, R, _⟩ => ⟨_, R⟩) (fun ys B' H' py e kk R => ⟨fs, vs, _, _, rfl, R, by rw [kk p List.mem_cons_self]; exact hp4, hd4.mono e.le, by omega, hf1, hfm, hT⟩) ?_ ?_
    · refine i_cons (i_if (r_evT (b := decide (1 < ((ns.length : Nat) : Int))) R4 (et_is (et_cmp (ev_op (ev_cb (ea_cons (ev_var rfl dv34) ea_nil) (rc_len rfl)) ev_int (rv_I0 rfl))) (by rw [List.length_map])) fun B5 H5 e5 g5 R5 => ?_))
      have hp5 : H5 p = some (.lst vs) := by rw [g5.x p List.mem_cons_self]; exact hp4
      have wk : ∀ (k : Int) (B' : Hp), WkD M0 B' _ (rangeD 0 k.toNat) := fun k B' => ⟨_, _, by rw [rangeD_length]; exact walk_range (lo := 0) (n := k.toNat), fun _ _ _ => True.intro, fun F' i H' x H2 hi W' y => by
        obtain ⟨rfl, rfl⟩ := y
        rw [rangeD_length] at hi
        exact ⟨Go.refl W'.i, .int (0 + (i : Nat)), by simp [rangeD, hi], rfl⟩⟩
      cases hb : decide (1 < ((ns.length : Nat) : Int)) with
      | true =>
        have h1n := of_decide_eq_true hb
        refine iteT (x_draw R5 dj' ne rfl (xi_op (f := fun i j => i + j) (xi_max (xi_op (f := fun i j => i - j) (xi_var (i := ll) rfl) (fun Q q => x_lenL rfl hp5 q)) (xi_c (i := 0))) (xi_c (i := 1))) ?_ ?_ (by omega) fun j B6 H6 hj0 hj1 e6 k6 R6 => ?_)
        · split <;> omega
        · split <;> omega
        · have hj16 : j ≤ 16 := by
            split at hj1 <;> omega
          exact ⟨j, rfl, by omega, by omega, kr _ (rangeD 0 j.toNat) B6 H6 ⟨by rw [rangeD_length]; omega, fun _ => by omega⟩ (e5.trans e6) (fun b hb => by rw [k6 b hb, g5.x b hb]) R6 (wk j B6)⟩
      | false =>
        refine iteF ⟨0, rfl, by omega, by omega, kr _ (rangeD 0 (0 : Int).toNat) B5 H5 ⟨by rw [rangeD_length]; decide, fun h => by rw [rangeD_length] at h; exact absurd h (by decide)⟩ e5 (fun b hb => g5.x b hb) (R5.upS (by omega)) (wk 0 B5)⟩
    · rintro ys i d xv σ' Bb B5 H5 B6 H6 ⟨hy1, hy2⟩ eb eb1 hd' ⟨fs, vs, v7', v8', rfl, Ri, hpi, hdi, hfl, hf1, hfm, hT⟩ e6 k6 up6 dx
      have hi1 := (List.getElem?_eq_some_iff.mp hd').1
      have hn2 := hy2 (by omega)
      have R6 := up6 _ Ri
      have hp6 : H6 p = some (.lst vs) := by rw [k6 p List.mem_cons_self]; exact hpi
      have hd6 := hdi.mono e6.le
      have h1f : 1 ≤ fs.length := hf1 (by omega)
      have hlv6 : vs.length = fs.length := by rw [hd6.length, List.length_map]
      have props : ∀ a b, a ∈ ms → b ∈ ms → a ≠ b → (fs ++ [(a, b)]).length ≤ 16 + (i + 1) ∧ (2 ≤ ms.length → 1 ≤ (fs ++ [(a, b)]).length) ∧ (∀ q ∈ fs ++ [(a, b)], q.1 ∈ ms ∧ q.2 ∈ ms ∧ q.1 ≠ q.2) ∧ Tree ms (fs ++ [(a, b)]) ms.length := fun a b ha hb hab => by
        refine ⟨by rw [List.length_append, List.length_singleton]; omega, fun _ => by rw [List.length_append, List.length_singleton]; omega, fun q hq => ?_, fun i h1 h2 => ?_⟩
        · rcases List.mem_append.mp hq with hq | hq
          · exact hfm q hq
          · rw [List.mem_singleton] at hq
            subst hq
            exact ⟨ha, hb, hab⟩
        · obtain ⟨a', b', j', q1, q2, q3, q4⟩ := hT i h1 h2
          exact ⟨a', b', j', q1, q2, q3, List.mem_append_left _ q4⟩
      have evm : 17 * (i + 1) = 17 * i + 17 := by omega
      refine ⟨_, rfl, .inl ⟨rfl, vs, SqL.of hp6⟩, ?_⟩
      refine i_cons (i_if (i_or (x_eqNil R6 rfl hp6 hd6 (fun q hq => ⟨hasc _ (hfm q hq).1, hasc _ (hfm q hq).2.1⟩) (fun z => by rw [z] at h1f; exact absurd h1f (by decide)) fun B7 H7 e7 k7 R7 => iteF ?_)))
      refine est_cmp (P := fun d => ∃ b, d = .bl b) (PB := fun _ => True) (es_op (c1 := 1) (c2 := 0) (P1 := intIn 0 3) (P2 := fun d => d = .int 0) (es_draw0 (m := 3) ne rfl (fun n' => ev_int) (by omega) (by omega)) (fun B' e => es_ev fun n' => ev_int) (by
        rintro x y ⟨j, rfl, _, _⟩ rfl
        exact ⟨.bl (decide (0 < j)), ⟨_, rfl⟩, fun M => rv_I0 rfl⟩)) (fun d ⟨b, e⟩ => ⟨b, e, trivial⟩) (n + 201 + 17 * i) F0 H (p :: F0) H7 _ (by omega) dj' R7 fun b B8 H8 _ e8 k8 R8 => ?_
      have dv38 := ((((((dv34.mono eb.le).mono eb1.le).mono e6.le).mono e7.le)).mono e8.le)
      have hp8 : H8 p = some (.lst vs) := by rw [k8 p List.mem_cons_self, k7 p List.mem_cons_self]; exact hp6
      have hd8 := (hd6.mono e7.le).mono e8.le
      cases b with
      | true =>
        refine iteT ?_
        have evt : EvS st t 16 (tCB (rTupO K) (tCons (tSl (rSlL K) (tCall Sp_mixed [] E0 (tCons (tVar 0) (tCons (tVar 3) tNil))) tNoPart (tPart (tC (.int 2)))) tNil)) [some (.ref st), some (.int hh), some (.int ll), some v3, some v4, some (.ref p), some (.int way), v7', some xv, none] B8 (fun d => ∃ a b, d = pD (a, b) ∧ a ∈ ms ∧ b ∈ ms ∧ a ≠ b) := by
          refine EvS.le (c0 := (ns.map D.str).length) (es_cb (PA := fun ds => ∃ d, ds = [d] ∧ ∃ a b, d = .lst [.str a, .str b] ∧ a ∈ ms ∧ b ∈ ms ∧ a ≠ b) (esa_one (es_slL (lo := none) (hi := some 2) (es_mixed0 (th := .lst (ns.map .str)) ne rfl (fun n' => ev_var rfl dv38) rfl (by rw [List.length_map]; omega)) (fun _ _ _ => eo_none) (fun _ _ _ => eo_some ev_int) ?_)) ?_) (by rw [List.length_map]; exact h16)
          · rintro d ⟨l', rfl, pl⟩
            obtain ⟨ms2, rfl, pm2⟩ := perm_strs pl
            have hl2 := pm2.length_eq
            have nd2 : ms2.Nodup := pm2.symm.nodup hnd
            match ms2, hl2 with
            | [], hl2 => exact absurd hl2 (by simp; omega)
            | [a], hl2 => exact absurd hl2 (by simp; omega)
            | a :: b :: r, hl2 =>
              refine ⟨_, rfl, a, b, ?_, pms.mem_iff.mpr (pm2.mem_iff.mp (by simp)), pms.mem_iff.mpr (pm2.mem_iff.mp (by simp)), fun z => ?_⟩
              · rw [List.map_cons, List.map_cons, cut_two]
              · subst z
                exact (List.nodup_cons.mp nd2).1 List.mem_cons_self
          · rintro ds ⟨d, rfl, a, b, rfl, ha, hb, hab⟩
            exact ⟨pD (a, b), ⟨a, b, rfl, ha, hb, hab⟩, fun M => rc_tupO⟩
        refine evt (n + 201 + 17 * i + (1 + 0)) F0 H (p :: F0) H8 _ (by omega) dj' R8 fun v B9 H9 d9 ⟨a, b, ed9, ha, hb, hab⟩ e9 k9 R9 dv9 => ?_
        subst ed9
        obtain ⟨q1, q2, q3, q4⟩ := props a b ha hb hab
        refine ⟨p, vs, v, rfl, rfl, by rw [k9 p List.mem_cons_self]; exact hp8, by omega, B9, (((eb1.trans e6).trans e7).trans e8).trans e9, fs ++ [(a, b)], vs ++ [v], _, _, rfl, (R9.put List.mem_cons_self (nS' _) nF0 rfl).upS (by omega), upd_same, ?_, q1, q2, q3, q4⟩
        rw [List.map_append]
        exact DtL.append (hd8.mono e9.le) (DtL.cons dv9 DtL.nil)
      | false =>
        refine iteF (x_pickO R8 dj' ne nF rfl rfl hp8 hd8 h1f (by omega) (by omega) fun q hq v B9 H9 e9 k9 R9 dv9 => ?_)
        obtain ⟨a, b⟩ := q
        obtain ⟨ha, hb, hab⟩ := hfm _ hq
        obtain ⟨q1, q2, q3, q4⟩ := props a b ha hb hab
        refine ⟨p, vs, v, rfl, rfl, by rw [k9 p List.mem_cons_self]; exact hp8, by omega, B9, (((eb1.trans e6).trans e7).trans e8).trans e9, fs ++ [(a, b)], vs ++ [v], _, _, rfl, (R9.put List.mem_cons_self (nS' _) nF0 rfl).upS (by omega), upd_same, ?_, q1, q2, q3, q4⟩
        rw [List.map_append]
        exact DtL.append (hd8.mono e9.le) (DtL.cons dv9 DtL.nil)
    · rintro ys σ' B5 H5 ⟨hy1, hy2⟩ e5 ⟨fs, vs, v7', v8', rfl, R5, hp5, hd5, hfl5, hf15, hfm5, hT5⟩
      obtain ⟨R6, e6⟩ := R5.see (G := F0) (fun b hb => List.mem_cons_of_mem _ hb) (fun b hb => hb)
      have dfound : Dt (Hd (DL.St st t (n + 201 + 17 * ys.length)) F0 H5) (.lst (fs.map pD)) (.ref p) := lst_mk (hd_some.mpr ⟨⟨nS' _, nF0⟩, hp5⟩) (hd5.mono e6.le)
      have dv36 := (dv34.mono e5.le).mono e6.le
      have L : LOk ns fs := ⟨by omega, fun q hq => ⟨pms.mem_iff.mp (hfm5 q hq).1, pms.mem_iff.mp (hfm5 q hq).2.1, (hfm5 q hq).2.2⟩⟩
      have vso := vso_mk (names := ns) (mixed := ms) (found := fs) (fun z => by rw [z] at hn1; exact absurd hn1 (by decide)) h16 hnd (fun s hs => nm_name (hno s hs)) L pms hT5
      refine r_ret (d := lvD (mkV ns (fs.map pD))) (R6.upS (m := n + 1000) (by omega)) (ev_tup (ea_cons (EvF.ev (ef_cb (ea_cons (ev_var (i := 3) rfl dv36) ea_nil) (rcf_sortS rfl))) (ea_cons (EvF.ev (ef_cb (ea_cons (EvF.ev (ef_is (ef_lcm (ys := fs.map pD) (fun t => pD (mm (laneP t))) (ei_seq rfl (ev_var (i := 5) rfl dfound)) (by rw [List.length_map]; omega) ?_) (?_ : _ = ((fs.map pD).map fun t => mm (laneP t)).map pD))) ea_nil) (rcf_sortSS rfl))) ea_nil)) (show (2 : Nat) ≤ sizeLine by decide)) fun v H' g d => kf v H' _ ⟨_, rfl, vso, ?_⟩ g d
      · intro d hd
        obtain ⟨q, hq, rfl⟩ := List.mem_map.mp hd
        refine turn_name (fun _ => rfl) fun B' z e dz => ⟨et_yes, fun _ => ?_⟩
        rw [laneP_eq (show sq (pD q) = some [.str q.1, .str q.2] from rfl)]
        exact ev_tup (ea_cons (ev_cb (ea_cons (ev_var rfl dz) ea_nil) (rc_mm rfl)) (ea_cons (ev_cb (ea_cons (ev_var rfl dz) ea_nil) (rc_mm rfl)) ea_nil)) (show (2 : Nat) ≤ sizeLine by decide)
      · rw [List.map_map, List.map_map, List.map_map]; rfl
      · show ((ns.mergeSort leS).length : Int) ≤ hh
        rw [List.length_mergeSort]; exact hnh
end
end Pg

namespace Pg
open PySem PySem.Spec PyProof.Rows L2 DL RX RZ LiI
structure OkNew (P : Program) (w : World) (K : PySem.W.Frag) (mg : Str → Option Value) (base : Heap) (k : Nat) (x : Str) (C : Addr) (ps : List Str) (sp : Sp) : Prop where
  ex : ∃ fI fd, Mk K C fI ∧ FnOk P w K mg base CX0 k fI fd ps sp ∧ Binds K fd ps []
  m : mg x = some (.ref C)
theorem pe_mk {X : Cx} {k : Nat} {x : Str} {C : Addr} {ps : List Str} {sp : Sp} {e : Expr} {es : List Expr} {t : TA} {p pos : Pos} (O : OkNew X.prog X.w X.K X.mg X.base k x C ps sp) (hr : Room (k + 1) X.A) (ha : PA X (e :: es) t) (hg : Gl X x := by rfl) (hdb : (x == ("__debug__" : Str)) = false := by decide)
    (he : starEach (e :: es) X.env = (false, eval e X.env) :: starEach es X.env := by rfl) (hpl : (backTo pos (starEach es X.env)).any (·.1) = false := by rfl) : PE X (.Call (.Name x p) (e :: es) [] pos) (tMake C sp [] E0 t) := by
  obtain ⟨fI, fd, mk, G, b⟩ := O.ex
  exact pe_make mk G hr hg O.m b .nil pass0 ha hdb he hpl
section
variable {s t : Addr} {c : Nat} {σ : L2.St} {B : Hp} {tr : TA} {P : D → Prop} {PA : List D → Prop} {C : Addr} {E : XK}
theorem es_make (ha : EvSA s t c tr σ B PA) (hp : ∀ ds, PA ds → ∃ i : Ini, ds = [i.hD, i.lD] ∧ IniOk i ∧ P (vD C (mkV i.names i.lanes))) : EvS s t c (tMake C (Sp_init C) [] E tr) σ B P := fun n F0 H0 F H Q hc dj R k =>
  ha n F0 H0 F H _ hc dj R fun vs B1 H1 ds pd e1 k1 R1 dv x dx hx hdx hne => by
    obtain ⟨i, rfl, io, pi⟩ := hp ds pd
    obtain ⟨a, b, rfl, ha', hb'⟩ := two_inv dv
    refine ⟨H1, (DL.St s t (n + c)).S ++ F, x, dx, i, a, b, rfl, rfl, hx, hdx, hne, app_tr R1.w, by rw [hd_app]; exact ha'.mono R1.w.e.le, by rw [hd_app]; exact hb'.mono R1.w.e.le, io, fun H' g' dV => ⟨rfl, ?_⟩⟩
    have g2 := go_app R1.w g'
    rw [hd_app] at dV
    exact k _ _ H' _ pi (e1.trans (R1.ext g2)) (fun b hb => by rw [g2.x b hb, k1 b hb]) (R1.step g2) dV
end
theorem list_eq_of {α : Type} {l m : List α} (hl : l.length = m.length) (h : ∀ (i : Nat) a b, m[i]? = some a → l[i]? = some b → b = a) : l = m := by
  refine List.ext_getElem? fun i => ?_
  by_cases z : i < l.length
  · have z2 : i < m.length := by omega
    rw [List.getElem?_eq_getElem z, List.getElem?_eq_getElem z2]
    exact congrArg some (h i _ _ (List.getElem?_eq_getElem z2) (List.getElem?_eq_getElem z))
  · rw [List.getElem?_eq_none (by omega), List.getElem?_eq_none (by omega)]
theorem loos_flat {k : Nat} {x y : D} (h : sq x = none) (l : Loos k x y) : y = x := by
  cases k with
  | zero => exact l
  | succ k => unfold Loos at l; rw [h] at l; exact l
theorem loos_sq {k : Nat} {x y : D} {l : List D} (h : sq x = some l) (q : Loos (k + 1) x y) : ∃ l', sq y = some l' ∧ l'.length = l.length ∧ ∀ (i : Nat) a b, l[i]? = some a → l'[i]? = some b → Loos k a b := by
  unfold Loos at q; rw [h] at q; exact q
theorem loos_strs {k : Nat} {x y : D} {ms : List Str} (h : sq x = some (ms.map D.str)) (q : Loos (k + 1) x y) : sq y = some (ms.map D.str) := by
  obtain ⟨l', h1, h2, h3⟩ := loos_sq h q
  rw [h1]
  refine congrArg some (list_eq_of h2 fun i a b ha hb => ?_)
  have hm := List.mem_of_getElem? ha
  obtain ⟨s, _, rfl⟩ := List.mem_map.mp hm
  exact loos_flat rfl (h3 i _ _ ha hb)
theorem deep_mono {C : Addr} : ∀ {k : Nat} {x : D}, Deep C k x → Deep C (k + 1) x
  | 0, x, h => ⟨h.2, fun l e => by rw [h.1] at e; cases e⟩
  | k + 1, x, h => ⟨h.1, fun l e => ⟨(h.2 l e).1, fun a ha => deep_mono ((h.2 l e).2 a ha)⟩⟩
theorem deep_flat {C : Addr} {x : D} (h : sq x = none) (o : okV C x) : ∀ k, Deep C k x
  | 0 => ⟨h, o⟩
  | k + 1 => deep_mono (deep_flat h o k)
theorem deep_strs {C : Addr} {k : Nat} {x : D} {ms : List Str} (h : sq x = some (ms.map D.str)) (hl : ms.length ≤ 100) : Deep C (k + 1) x := by
  refine ⟨okV_sq h, fun l e => ?_⟩
  rw [h] at e; cases e
  refine ⟨by rw [List.length_map]; exact hl, fun a ha => ?_⟩
  obtain ⟨s, _, rfl⟩ := List.mem_map.mp ha
  exact deep_flat rfl (show okV C (.str s) from trivial) k
def laneS (q : Str × Str) (y : D) : Prop := ∃ a b, sq y = some [.str a, .str b] ∧ ((a = q.1 ∧ b = q.2) ∨ (a = q.2 ∧ b = q.1))
theorem laneS_mm {q : Str × Str} {y : D} (h : laneS q y) : mm (laneP y) = mm q := by
  obtain ⟨a, b, hs, h⟩ := h
  rw [laneP_eq hs]
  rcases h with ⟨rfl, rfl⟩ | ⟨rfl, rfl⟩
  · rfl
  · exact mm_swap _ _
theorem laneS_loos {q : Str × Str} {k : Nat} {x y : D} (h : laneS q x) (l : Loos (k + 1) x y) : laneS q y := by
  obtain ⟨a, b, hs, h⟩ := h
  exact ⟨a, b, loos_strs (ms := [a, b]) hs l, h⟩
theorem laneS_deep {C : Addr} {q : Str × Str} {k : Nat} {x : D} (h : laneS q x) : Deep C (k + 1) x := by
  obtain ⟨a, b, hs, h⟩ := h
  exact deep_strs (ms := [a, b]) hs (by show 2 ≤ 100; omega)
theorem two_perm {ms : List Str} {a b : Str} (h : ms.Perm [a, b]) : ms = [a, b] ∨ ms = [b, a] := by
  match ms, h.length_eq with
  | [x, y], _ =>
    have hx := h.mem_iff.mp (List.mem_cons_self (a := x) (l := [y]))
    simp only [List.mem_cons, List.not_mem_nil, or_false] at hx
    rcases hx with rfl | rfl
    · have := List.Perm.cons_inv h
      rw [List.perm_singleton.mp this]
      exact .inl rfl
    · have := List.Perm.cons_inv (h.trans (List.Perm.swap _ _ _))
      rw [List.perm_singleton.mp this]
      exact .inr rfl
section
variable {P : Program} {w : World} {K : PySem.W.Frag} {mg : Str → Option Value} {base : Heap} {f C : Addr} {fd : FuncData} {M : Md} {σ : L2.St} {B : Hp} {te ta tb : TE} {V : Vl} {d : D} {F0 F : List Addr} {H0 H : Hp} {De : Ends} {tz : TS}
theorem es_loose {s t : Addr} {c1 i : Nat} {tr : TA} {E : XK} {P : D → Prop} {PA : List D → Prop} (ne : s ≠ t) (hi : σ[i]? = some (some (.ref s))) (ha : EvSA s t c1 tr σ B PA) (hp : ∀ ds, PA ds → ∃ x, ds = [x] ∧ Deep C 2 x ∧ ∀ y, Loos 2 x y → P y) : EvS s t (c1 + 101) (tCall (Sp_loose C 2) [] E (tCons (tVar i) tr)) σ B P :=
  es_call (c2 := 101) ne hi ha fun ds h => by
    obtain ⟨x, e, h1, h2⟩ := hp ds h
    exact ⟨x, e, h1, (by decide : looseC 2 ≤ 101), fun d hd => h2 d hd⟩
abbrev Sp_made (C : Addr) := SpS (α := Vl) (fun _ => 10000) (fun V => [lvD V]) (fun V => VSo V) (fun V d => d = vD C V)
abbrev N_made : List Str := ["stream", "village", "lanes", "lane"]
theorem ok_made {a1 a2 : Addr} (F : Fun K "_law_made" "_law_made" s_law_made f fd) (N : Bn mg) (g1 : mg "_law_mixed" = some (.ref a1)) (O1 : OkF P w K mg base 2 a1 ["stream", "things"] Sp_mixed) (g2 : mg "_law_loose" = some (.ref a2)) (O2 : OkF P w K mg base 4 a2 ["stream", "thing"] (Sp_loose C 2))
    (O3 : OkNew P w K mg base 4 "Village" C ["self", "houses", "lanes"] (Sp_init C)) : FnOk P w K mg base CX0 6 f fd ["stream", "village"] (Sp_made C) := by
  refine F.ok sc_law_made (SpS.len fun _ => rfl) (fun cdv A outer s H vs Q E hr h => ?_)
  obtain ⟨st, t, n, F0, V, ws, rfl, dj, ne, W, hw, hV, hc, kf⟩ := h
  obtain ⟨x, rfl, hx⟩ := one_inv hw
  refine ⟨_, pss_cons (ps_setLc (te := tCall (Sp_loose C 2) [] E0 (tCons (tVar 0) (tCons (tCB (rTupO K) (tCons (tCall Sp_mixed [] E0 (tCons (tVar 0) (tCons (tCB (fun xs H Q => ∃ p ys, xs = [.ref p] ∧ (SqL K H p ys ∨ SqT K H p ys) ∧ ∀ l, H l = none → Q (.ref l) (upd H l (.lst ys))) (tCons (tVar 3) tNil)) tNil))) tNil)) tNil))) (i := 2) (own := [("lane", 3)]) (g := gName 3) (by rfl) sc_law_made.nd rfl rfl (sw_true rfl rfl rfl (by decide +kernel)) (pi_list (pe_ix ix_seq (pv 1) pe_int (fun _ _ => rfl))) (blkOk_by (own := [("lane", 3)]) (N := N_made) (sc := defScope s_law_made) (by decide +kernel)) (fun _ _ _ _ _ => pg_name (i := 3) sc_law_made.nd rfl (Or.inl rfl)) (fun _ _ _ _ _ => pts_nil) (fun _ _ _ _ _ => by exact (pe_c O2 (hr.mono (by decide)) g2 (pa_cons (pv 0) (pa_cons (pe_callTy call_tuple_of (by rfl) N.tuple (by decide +kernel) (pa_cons (pe_c O1 (hr.mono (by decide)) g1 (pa_cons (pv 0) (pa_cons (pe_callTy call_list_of (by rfl) N.list (by decide +kernel) (pa_cons (pv 3) pa_nil)) pa_nil))) pa_nil)) pa_nil)))))
    (pss_one (ps_ret (pe_mk O3 hr (pa_cons (pe_c O2 (hr.mono (by decide)) g2 (pa_cons (pv 0) (pa_cons (pe_c O1 (hr.mono (by decide)) g1 (pa_cons (pv 0) (pa_cons (pe_ix ix_seq (pv 1) pe_int (fun _ _ => rfl)) pa_nil))) pa_nil))) (pa_cons (pe_c O2 (hr.mono (by decide)) g2 (pa_cons (pv 0) (pa_cons (pe_c O1 (hr.mono (by decide)) g1 (pa_cons (pv 0) (pa_cons (pv 2) pa_nil))) pa_nil))) pa_nil))))), ?_⟩
  have hV : VSo V := hV
  have pV := hV.ok
  have hn16 := pV.n
  have hl64 := pV.l
  have hsz : (1200 : Nat) < sizeLine := by decide
  have hc : n + 10000 ≤ 2 ^ 40 := hc
  refine r_setS (c := 0 + 103 * 64) (es_lc (c0 := 0) (c := 103) (m := 64) (PI := fun ys => ys = V.ls.map pD) (PE := fun ys d y => ∀ q, d = pD q → laneS q y) (esi_ei (ei_list (l := V.ls.map pD) (ev_lv1 (ev_var rfl hx)))) (fun ys e => by rw [e, List.length_map]; exact hl64) (by omega) (fun x => rfl) ?_) (Rn.begin W) dj (by omega) fun v2 B2 H2 d2 ⟨ys, ds, eys, ed2, hdl, hPE⟩ e2 k2 R2 dv2 => ?_
  · rintro ys rfl d hd B' x e dx
    obtain ⟨q, hq, rfl⟩ := List.mem_map.mp hd
    refine EvS.le (c0 := 2 + 101) (es_loose (C := C) (c1 := 2) ne rfl (esa_one (es_cb (P := laneS q) (PA := fun ds => ∃ d, ds = [d] ∧ ∃ ms : List Str, d = .lst (ms.map .str) ∧ ms.Perm [q.1, q.2]) (esa_one (EvS.imp (es_mixed0 (th := .lst [.str q.1, .str q.2]) (l := [D.str q.1, D.str q.2]) ne rfl (fun n' => EvF.ev (ef_cb (ea_cons (ev_var rfl dx) ea_nil) (rcf_list rfl))) rfl (by show 2 ≤ 1000; omega)) ?_)) ?_)) ?_) (by omega)
    · rintro d ⟨l', rfl, pl⟩
      obtain ⟨ms, rfl, pm⟩ := perm_strs (ns := [q.1, q.2]) pl
      exact ⟨ms, rfl, pm⟩
    · rintro ds ⟨d, rfl, ms, rfl, pm⟩
      refine ⟨.tup (ms.map .str), ?_, fun M => rc_tupO⟩
      rcases two_perm pm with rfl | rfl
      · exact ⟨q.1, q.2, rfl, .inl ⟨rfl, rfl⟩⟩
      · exact ⟨q.2, q.1, rfl, .inr ⟨rfl, rfl⟩⟩
    · rintro ds ⟨x, rfl, hx⟩
      refine ⟨x, rfl, laneS_deep hx, fun y hy q' eq' => ?_⟩
      have : q' = q := by
        obtain ⟨a, b⟩ := q'
        obtain ⟨a', b'⟩ := q
        unfold pD at eq'
        injection eq' with h1
        injection h1 with h2 h3
        injection h3 with h4 h5
        injection h2 with h2
        injection h4 with h4
        rw [show a' = a from h2, show b' = b from h4]
      rw [this]
      exact laneS_loos hx hy
  · subst eys; subst ed2
    have hdl64 : ds.length ≤ 64 := by rw [hdl, List.length_map]; exact hl64
    have lane : ∀ (i : Nat) b, ds[i]? = some b → ∃ q, V.ls[i]? = some q ∧ laneS q b := fun i b hb => by
      have hlt : i < V.ls.length := by
        have := (List.getElem?_eq_some_iff.mp hb).1
        rw [hdl, List.length_map] at this
        exact this
      refine ⟨V.ls[i], List.getElem?_eq_getElem hlt, hPE i (pD V.ls[i]) b (by rw [List.getElem?_map, List.getElem?_eq_getElem hlt]; rfl) hb _ rfl⟩
    have lane_m : ∀ b ∈ ds, ∃ q ∈ V.ls, laneS q b := fun b hb => by
      obtain ⟨i, hi, ei⟩ := List.mem_iff_getElem.mp hb
      obtain ⟨q, hq, hl⟩ := lane i b (by rw [List.getElem?_eq_getElem hi, ei])
      exact ⟨q, List.mem_of_getElem? hq, hl⟩
    have hmmds : ds.map (fun t => mm (laneP t)) = V.ls := by
      refine list_eq_of (by rw [List.length_map, hdl, List.length_map]) fun i a b ha hb => ?_
      rw [List.getElem?_map] at hb
      obtain ⟨d, hd, rfl⟩ := Option.map_eq_some_iff.mp hb
      obtain ⟨q, hq, hl⟩ := lane i d hd
      rw [ha] at hq; cases hq
      rw [laneS_mm hl, hV.mm a (List.mem_of_getElem? ha)]
    have hx2 := hx.mono e2.le
    refine r_retS (c := (16 + 101) + ((64 + 101) + 0)) (es_make (P := fun d => d = vD C V) (PA := fun ds' => ∃ d r, ds' = d :: r ∧ (∃ ns' : List Str, sq d = some (ns'.map .str) ∧ ns'.Perm V.ns) ∧ ∃ d2 r2, r = d2 :: r2 ∧ (∃ L, sq d2 = some L ∧ (L.map fun t => mm (laneP t)).Perm V.ls ∧ ∀ t ∈ L, ∃ q ∈ V.ls, laneS q t) ∧ r2 = []) (esa_cons (es_loose (C := C) (c1 := 16) ne rfl (esa_one (EvS.le (es_mixed0 (th := nsD V) (l := V.ns.map .str) ne rfl (fun n' => ev_lv0 (ev_var (i := 1) rfl hx2)) rfl (by rw [List.length_map]; omega)) (by rw [List.length_map]; exact hn16))) ?_) fun B' e' => esa_cons (es_loose (C := C) (c1 := 64) ne rfl (esa_one (EvS.le (es_mixed0 (th := .lst ds) ne rfl (fun n' => ev_var (i := 2) rfl (dv2.mono e'.le)) rfl (by omega)) hdl64)) ?_) fun _ _ => esa_nil) ?_) R2 dj (by omega) fun v H' d pd g dvv => ?_
    · rintro ds' ⟨d, rfl, l', rfl, pl⟩
      obtain ⟨ms, rfl, pm⟩ := perm_strs pl
      exact ⟨_, rfl, deep_strs (ms := ms) rfl (by rw [pm.length_eq]; omega), fun y hy => ⟨ms, loos_strs (k := 1) rfl hy, pm⟩⟩
    · rintro ds' ⟨d, rfl, l', rfl, pl⟩
      have lm : ∀ t ∈ l', ∃ q ∈ V.ls, laneS q t := fun t ht => lane_m t (pl.mem_iff.mp ht)
      refine ⟨_, rfl, ⟨trivial, fun l e => ?_⟩, fun y hy => ?_⟩
      · cases e
        refine ⟨by rw [pl.length_eq]; omega, fun a ha => ?_⟩
        obtain ⟨q, _, hq⟩ := lm a ha
        exact laneS_deep hq
      · obtain ⟨L, h1, h2, h3⟩ := loos_sq (l := l') rfl hy
        have each : ∀ (i : Nat) b, L[i]? = some b → ∃ a, l'[i]? = some a ∧ ∃ q ∈ V.ls, laneS q a ∧ laneS q b := fun i b hb => by
          have hlt : i < l'.length := by rw [← h2]; exact (List.getElem?_eq_some_iff.mp hb).1
          obtain ⟨q, hq, hl⟩ := lm l'[i] (List.getElem_mem hlt)
          exact ⟨l'[i], List.getElem?_eq_getElem hlt, q, hq, hl, laneS_loos hl (h3 i _ _ (List.getElem?_eq_getElem hlt) hb)⟩
        have em : L.map (fun t => mm (laneP t)) = l'.map (fun t => mm (laneP t)) := by
          refine list_eq_of (by rw [List.length_map, List.length_map, h2]) fun i a b ha hb => ?_
          rw [List.getElem?_map] at ha hb
          obtain ⟨x, hx, rfl⟩ := Option.map_eq_some_iff.mp ha
          obtain ⟨z, hz, rfl⟩ := Option.map_eq_some_iff.mp hb
          obtain ⟨a', ha', q, _, hl1, hl2⟩ := each i z hz
          rw [hx] at ha'; cases ha'
          rw [laneS_mm hl1, laneS_mm hl2]
        refine ⟨L, h1, ?_, fun t ht => ?_⟩
        · rw [em, ← hmmds]; exact pl.map _
        · obtain ⟨i, hi, ei⟩ := List.mem_iff_getElem.mp ht
          obtain ⟨a, _, q, hq, _, hl⟩ := each i t (by rw [List.getElem?_eq_getElem hi, ei])
          exact ⟨q, hq, hl⟩
    · rintro ds' ⟨d, r, rfl, ⟨ns', hs1, pn⟩, d2, r2, rfl, ⟨L, hs2, pl, hL⟩, rfl⟩
      have eV := mk_uniq hV pn pl
      refine ⟨⟨d, d2, ns', L⟩, rfl, ⟨hs1, hs2, ⟨fun z => ?_, (show ns'.length ≤ 16 by rw [pn.length_eq]; exact hn16), pn.symm.nodup pV.nd, fun s hs => pV.nm s (pn.mem_iff.mp hs)⟩, ?_, ?_, ?_, fun t ht => ?_⟩, ?_⟩
      · have z : ns' = [] := z
        rw [z] at pn
        exact pV.n0 (List.length_eq_zero_iff.mp pn.length_eq.symm)
      · show VOk (mkV ns' L); rw [eV]; exact pV
      · show Conn (mkV ns' L); rw [eV]; exact hV.co
      · have := pl.length_eq
        rw [List.length_map] at this
        show L.length ≤ 64
        omega
      · obtain ⟨q, hq, a, b, hs, hab⟩ := hL t ht
        obtain ⟨m1, m2, m3⟩ := pV.le q hq
        rcases hab with ⟨rfl, rfl⟩ | ⟨rfl, rfl⟩
        · exact ⟨_, _, hs, pn.mem_iff.mpr m1, pn.mem_iff.mpr m2, m3⟩
        · exact ⟨_, _, hs, pn.mem_iff.mpr m2, pn.mem_iff.mpr m1, fun z => m3 z.symm⟩
      · show vD C (mkV ns' L) = _
        rw [eV]
    · exact kf v H' d pd ⟨g.e, g.x, StI.up g.i (by show _ ≤ n + 10000; omega)⟩ dvv
end
end Pg

namespace Pg
open PySem PySem.Spec PyProof.Rows L2 DL RX RZ LiI
/-! ### readings, plain -/
def rdgD (V : Vl) (m : Int) (g : Str → Int) : D := .tup [.int m, .dic (V.ns.map .inr) (V.ns.map fun a => .int (g a))]
theorem counts_rdg {V : Vl} (g : Str → Int) : countsD V (.dic (V.ns.map .inr) (V.ns.map fun a => .int (g a))) = true := by
  show (decide ((V.ns.map fun a => D.int (g a)).length = V.ns.length) && _) = true
  rw [Bool.and_eq_true]
  refine ⟨decide_eq_true (List.length_map _), ?_⟩
  rw [List.all_eq_true]
  intro p hp
  rw [List.zip_map'] at hp
  obtain ⟨a, ha, rfl⟩ := List.mem_map.mp hp
  show (decide (a ∈ V.ns) && true) = true
  rw [decide_eq_true ha]; rfl
theorem lkI_map {ns : List Str} {g : Str → Int} {a : Str} (h : a ∈ ns) : lkI (ns.map .inr) (ns.map fun a => .int (g a)) a = g a := by
  unfold lkI
  rw [lk_map (g := fun a => D.int (g a)) h]
theorem read_rdg {V : Vl} (pV : VOk V) {m : Int} {g : Str → Int} : readD V (rdgD V m g) = (decide (2 ≤ m) && ((V.ns.all fun a => decide (0 ≤ g a) && decide (g a < m)) && V.ns.all fun a => decide (behI V (fun _ => 0) g a % m = 0))) := by
  show (decide (2 ≤ m) && (countsD V (.dic (V.ns.map .inr) (V.ns.map fun a => .int (g a))) && (((V.ns.map fun a => D.int (g a)).all fun x => numD x && decide (iD x < m)) && V.ns.all fun a => decide (behI V (fun _ => 0) (lkI (V.ns.map .inr) (V.ns.map fun a => .int (g a))) a % m = 0)))) = _
  rw [counts_rdg, Bool.true_and, List.all_map]
  have e : ∀ a ∈ V.ns, behI V (fun _ => 0) (lkI (V.ns.map .inr) (V.ns.map fun a => .int (g a))) a = behI V (fun _ => 0) g a := fun a ha => by
    unfold behI
    rw [lkI_map ha]
    have : (V.ns.map fun b => cnt V.ls a b * lkI (V.ns.map .inr) (V.ns.map fun a => .int (g a)) b) = V.ns.map fun b => cnt V.ls a b * g b := List.map_congr_left fun b hb => by rw [lkI_map hb]
    rw [this]
  have e2 : (V.ns.all fun a => decide (behI V (fun _ => 0) (lkI (V.ns.map .inr) (V.ns.map fun a => .int (g a))) a % m = 0)) = V.ns.all fun a => decide (behI V (fun _ => 0) g a % m = 0) := by
    rw [Bool.eq_iff_iff, List.all_eq_true, List.all_eq_true]
    constructor
    · intro h a ha
      have := h a ha
      rw [e a ha] at this
      exact this
    · intro h a ha
      rw [e a ha]
      exact h a ha
  rw [e2]; rfl
theorem flow_const {ls : List (Str × Str)} {c : Int} {a : Str} : flowL ls (fun _ => c) a = 0 := by
  unfold flowL
  induction ls with
  | nil => rfl
  | cons p ls ih =>
    rw [List.map_cons, List.sum_cons, ih]
    dsimp only
    split <;> (try split) <;> omega
theorem const_read {V : Vl} (pV : VOk V) {m : Int} (h2 : 2 ≤ m) : readD V (rdgD V m fun _ => m - 1) = true := by
  rw [read_rdg pV, Bool.and_eq_true, Bool.and_eq_true, List.all_eq_true, List.all_eq_true]
  refine ⟨decide_eq_true h2, fun a _ => ?_, fun a _ => ?_⟩
  · rw [decide_eq_true (by omega), decide_eq_true (by omega)]; rfl
  · rw [beh_flow pV, flow_const]
    exact decide_eq_true (by simp)
theorem items_map {ns : List Str} {g : Str → D} : itemsD (ns.map .inr) (ns.map g) = ns.map fun a => D.tup [.str a, g a] := by
  unfold itemsD
  rw [List.zip_map', List.map_map]; rfl
section
variable {s t : Addr} {n c c1 c2 m : Nat} {F0 F : List Addr} {H0 H B : Hp} {σ : L2.St} {te ta tb tc : TE} {tt : TT} {tu tw tz : TS} {De : Ends} {P P1 P2 : D → Prop} {K : PySem.W.Frag} {p : Addr} {M : Md} {g : TG} {wi : TI} {PI : List D → Prop}
theorem r_tgS {R' : D → L2.St → Hp → Prop} (h : EvS s t c te σ B P) (R : Rn (DL.St s t n) F0 H0 F B H) (dj : Dj s t F) (hc : n + c ≤ 2 ^ 40) (hg : ∀ B' d, Ex B B' → P d → Tg (DL.St s t (n + c)) g σ B' d (R' d))
    (k : ∀ d σ2 B' H', P d → Ex B B' → (∀ b ∈ F, H' b = H b) → Rn (DL.St s t (n + c)) F0 H0 F B' H' → R' d σ2 B' → tz De σ2 H') : tSeq (tAsg te g) tz De σ H :=
  h n F0 H0 F H _ hc dj R fun v B' H' d pd e kk R1 dv => hg B' d e pd F B' H' v (tz De) (Ex.refl _) R1.w dv fun σ2 r => k d σ2 B' H' pd e kk R1 r
/-- own list += drawn list (last statement) -/
theorem r_extS {i : Nat} {vs : List L2.V} (h : EvS s t c te σ B P) (hl : ∀ d, P d → ∃ l, d = .lst l ∧ l.length ≤ m) (R : Rn (DL.St s t n) F0 H0 F B H) (dj : Dj s t F) (hc : n + c ≤ 2 ^ 40) (hp : p ∈ F) (h0 : p ∉ F0) (hi : σ[i]? = some (some (.ref p))) (hv : H p = some (.lst vs)) (hz : vs.length + m ≤ sizeLine)
    (k : ∀ l ws B' H', P (.lst l) → Ex B B' → Rn (DL.St s t (n + c)) F0 H0 F B' (upd H' p (.lst (vs ++ ws))) → (∀ b ∈ F, b ≠ p → H' b = H b) → DtL B' l ws → De.nx σ (upd H' p (.lst (vs ++ ws)))) : tDrop (tBM K "list" rExtend (tVar i) (tCons te tNil)) De σ H :=
  ⟨_, hi, .inl ⟨rfl, vs, SqL.of hv⟩, h n F0 H0 F H (fun x H1 => tNil σ H1 fun xs H2 => rExtend (.ref p) (x :: xs) H2 fun _ H3 => De.nx σ H3) hc dj R fun v B' H' d pd e kk R1 dv => by
    obtain ⟨l, rfl, hm⟩ := hl d pd
    obtain ⟨q, ws, rfl, hq, hws⟩ := lst_inv dv
    have hq' := hd_some.mp (R1.w.e q _ hq rfl)
    refine ⟨p, q, vs, ws, rfl, rfl, by rw [kk p hp]; exact hv, hq'.2, by rw [hws.length]; omega, k l ws B' H' pd e (R1.put hp (fun z => ?_) h0 rfl) (fun b hb _ => kk b hb) hws⟩
    rcases List.mem_cons.mp z with z | z
    · exact dj.1 (by rw [← z]; exact hp)
    · rw [List.mem_singleton] at z; exact dj.2 (by rw [← z]; exact hp)⟩
/-- list(range(n)) -/
theorem ef_listRg {n : Int} (h : Ev M ta σ B (.int n)) (h0 : 0 ≤ n) (h1 : n ≤ 1000) : EvF M (tLstRg (tRg1 ta)) σ B (rangeD 0 n.toNat) := fun F H Q W k => h F H _ W fun v H1 g1 e => by
  have ev : v = .int n := e
  subst ev
  refine ⟨n, rfl, RgOk.of_le (by omega) (by omega) (by omega) (by omega), fun q hq => k q _ _ (W.back g1 (Fr.of hq)) (g1.trans ((W.go g1).new hq _)) upd_same ?_⟩
  have : rgV 0 n = (List.range n.toNat).map fun i => L2.V.int (0 + ((i : Nat) : Int)) := by
    unfold rgV
    rw [Int.sub_zero]
  rw [this]
  unfold rangeD
  have f : ∀ (l : List Nat) (Hx : Hp), DtL Hx (l.map fun i => D.int (0 + ((i : Nat) : Int))) (l.map fun i => L2.V.int (0 + ((i : Nat) : Int))) := fun l Hx => by
    induction l with
    | nil => exact DtL.nil
    | cons a l ih => exact DtL.cons rfl ih
  exact f _ _
theorem choose_rdg {V : Vl} {m : Int} {l : List D} (h : ∀ d ∈ l, ∃ g, d = rdgD V m g ∧ readD V (rdgD V m g) = true) : ∃ gs : List (Str → Int), l = gs.map (rdgD V m) ∧ ∀ g ∈ gs, readD V (rdgD V m g) = true := by
  induction l with
  | nil => exact ⟨[], rfl, fun g hg => by cases hg⟩
  | cons d l ih =>
    obtain ⟨gs, rfl, h2⟩ := ih fun x hx => h x (List.mem_cons_of_mem _ hx)
    obtain ⟨g, rfl, hg⟩ := h d List.mem_cons_self
    exact ⟨g :: gs, rfl, fun x hx => by
      rcases List.mem_cons.mp hx with rfl | hx
      · exact hg
      · exact h2 x hx⟩
theorem cut_sub {l : List D} {k : Int} : ∀ d ∈ DL.cutD l none (some k), d ∈ l := fun d hd => by
  unfold DL.cutD at hd
  exact List.mem_of_mem_drop (List.mem_of_mem_take hd)
theorem cut_le {l : List D} {k : Int} (hk : 0 ≤ k) : (DL.cutD l none (some k)).length ≤ k.toNat := by
  unfold DL.cutD
  rw [List.length_take]
  have e : HT.sIx l.length l.length (some k) ≤ k.toNat := by
    unfold HT.sIx
    dsimp only
    split <;> omega
  omega
end
section
variable {P : Program} {w : World} {K : PySem.W.Frag} {mg : Str → Option Value} {base : Heap} {f C : Addr} {fd : FuncData} {M : Md} {σ : L2.St} {B : Hp} {te ta tb : TE} {V : Vl} {d : D} {F0 F : List Addr} {H0 H : Hp} {De : Ends} {tz : TS}
abbrev Sp_readings := SpS (α := Vl) (fun _ => 10000) (fun V => [lvD V]) (fun V => VSo V) (fun V d => ∃ (m : Int) (gs : List (Str → Int)), d = .lst (gs.map (rdgD V m)) ∧ 2 ≤ m ∧ m ≤ 6 ∧ gs.length ≤ 4 ∧ ∀ g ∈ gs, readD V (rdgD V m g) = true)
abbrev N_readings : List Str := ["stream", "village", "modulus", "rows", "house", "longer", "some", "weight", "found"]
theorem ok_readings {a1 a2 a3 : Addr} (F : Fun K "_law_readings" "_law_readings" s_law_readings f fd) (N : Bn mg) (g1 : mg "_law_draw" = some (.ref a1)) (O1 : OkF P w K mg base 1 a1 ["stream", "many"] Sp_draw) (g2 : mg "_law_mixed" = some (.ref a2)) (O2 : OkF P w K mg base 2 a2 ["stream", "things"] Sp_mixed)
    (g3 : mg "_law_is_reading" = some (.ref a3)) (O3 : OkF P w K mg base 2 a3 ["village", "thing"] (Sp_law_is_reading C)) : FnOk P w K mg base CX0 3 f fd ["stream", "village"] Sp_readings := by
  refine F.ok sc_law_readings (SpS.len fun _ => rfl) (fun cdv A outer s H vs Q E hr h => ?_)
  obtain ⟨st, t, n, F0, V, ws, rfl, dj, ne, W, hw, hV, hc, kf⟩ := h
  obtain ⟨x, rfl, hx⟩ := one_inv hw
  refine ⟨_, pss_cons (ps_asg (g := gTup K 2 (gCons (gName 2) (gCons (gName 3) gNil))) (pe_tup (pa_cons (pe_op op_add pe_int (pe_c O1 (hr.mono (by decide)) g1 (pa_cons (pv 0) (pa_cons pe_int pa_nil)))) (pa_cons (pe_lst (pa_cons pe_dnewK pa_nil)) pa_nil))) (by exact pg_tup (by rfl) (pgs_cons (pg_name (i := 2) sc_law_readings.nd rfl (Or.inr rfl)) (pgs_cons (pg_name (i := 3) sc_law_readings.nd rfl (Or.inl rfl)) pgs_nil))))
    (pss_cons (ps_for PassesOwn.never (by rfl) (pi_list (pe_ix ix_seq (pv 1) pe_int (fun _ _ => rfl))) (pg_name (i := 4) sc_law_readings.nd rfl (Or.inr rfl))
      (pss_cons (ps_set (i := 5) sc_law_readings.nd rfl (Or.inl rfl) (pe_lst pa_nil))
      (pss_cons (ps_for PassesOwn.never (by rfl) (pi_list (pe_slice sl_list (pv 3) po_none (po_some pe_int))) (pg_name (i := 6) sc_law_readings.nd rfl (Or.inr rfl))
        (pss_one (ps_expr (pe_bm PySem.F.plainAttrs_list PySem.F.slot_list_extend PySem.F.type_list_extend mt_extend (pv 5) (pa_cons (pe_lc (te := tCB (rDictP K) (tCons (tOp rCat (tItemsR (tVar 6)) (tLst (tCons (tTup (tCons (tVar 4) (tCons (tVar 7) tNil))) tNil))) tNil)) (own := [("weight", 7)]) (g := gName 7) (by rfl) sc_law_readings.nd (pi_list (pe_slice sl_list (pe_c O2 hr g2 (pa_cons (pv 0) (pa_cons (pe_listRg rfl (by rfl) N.list (prg_1 (by rfl) N.range (pv 2))) pa_nil))) po_none (po_some pe_int))) (blkOk_by (own := [("weight", 7)]) (N := N_readings) (sc := defScope s_law_readings) (by decide +kernel)) (fun _ _ _ _ _ => pg_name (i := 7) sc_law_readings.nd rfl (Or.inl rfl)) (fun _ _ _ _ _ => pts_nil) (fun _ _ _ _ _ => (by exact (pe_callTy (call_dictP rfl) (by rfl) N.dict (by decide +kernel) (pa_cons (pe_op op_cat (pe_itemsR rfl (pv 6) (by rfl) N.list (by decide +kernel)) (pe_lst (pa_cons (pe_tup (pa_cons (pv 4) (pa_cons (pv 7) pa_nil))) pa_nil))) pa_nil))))) pa_nil)))))
      (pss_one (ps_set (i := 3) sc_law_readings.nd rfl (Or.inl rfl) (pe_c O2 hr g2 (pa_cons (pv 0) (pa_cons (pv 5) pa_nil))))))))
    (pss_cons (ps_setLc (tt := tB (tCall (Sp_law_is_reading C) [] E0 (tCons (tVar 1) (tCons (tTup (tCons (tVar 2) (tCons (tVar 6) tNil))) tNil)))) (te := tTup (tCons (tVar 2) (tCons (tVar 6) tNil))) (i := 8) (own := [("some", 6)]) (g := gName 6) (by rfl) sc_law_readings.nd rfl rfl (sw_true rfl rfl rfl (by decide +kernel)) (pi_list (pe_slice sl_list (pv 3) po_none (po_some pe_int))) (blkOk_by (own := [("some", 6)]) (N := N_readings) (sc := defScope s_law_readings) (by decide +kernel)) (fun _ _ _ _ _ => pg_name (i := 6) sc_law_readings.nd rfl (Or.inl rfl)) (fun _ _ _ _ _ => by exact (pts_one (pt_val (pe_c O3 hr g3 (pa_cons (pv 1) (pa_cons (pe_tup (pa_cons (pv 2) (pa_cons (pv 6) pa_nil))) pa_nil)))))) (fun _ _ _ _ _ => by exact (pe_tup (pa_cons (pv 2) (pa_cons (pv 6) pa_nil)))))
    (pss_one (ps_ret (pe_op op_cat (pe_slice sl_list (pv 8) po_none (po_some pe_int)) (pe_lst (pa_cons (pe_tup (pa_cons (pv 2) (pa_cons (pe_callTy (call_dictP rfl) (by rfl) N.dict (by decide +kernel) (pa_cons (pe_lc (te := tTup (tCons (tVar 4) (tCons (tOp (rI0 fun i j => .int (i - j)) (tVar 2) (tC (.int 1))) tNil))) (own := [("house", 4)]) (g := gName 4) (by rfl) sc_law_readings.nd (pi_list (pe_ix ix_seq (pv 1) pe_int (fun _ _ => rfl))) (blkOk_by (own := [("house", 4)]) (N := N_readings) (sc := defScope s_law_readings) (by decide +kernel)) (fun _ _ _ _ _ => pg_name (i := 4) sc_law_readings.nd rfl (Or.inl rfl)) (fun _ _ _ _ _ => pts_nil) (fun _ _ _ _ _ => (by exact (pe_tup (pa_cons (pv 4) (pa_cons (pe_op op_sub (pv 2) pe_int) pa_nil)))))) pa_nil)) pa_nil))) pa_nil))))))), ?_⟩
  have hV : VSo V := hV
  have pV := hV.ok
  have hn16 := pV.n
  have hsz : (1200 : Nat) < sizeLine := by decide
  have hc : n + 10000 ≤ 2 ^ 40 := hc
  -- the modulus
  refine r_tgS (c := 1) (P := fun d => ∃ m : Int, d = .tup [.int m, .lst [.dic [] []]] ∧ 2 ≤ m ∧ m ≤ 6) (R' := fun d σ2 B' => ∃ (m : Int) (v3 : L2.V), σ2 = [some (.ref st), some x, some (.int m), some v3, none, none, none, none, none] ∧ 2 ≤ m ∧ m ≤ 6 ∧ Dt B' (.lst [.dic [] []]) v3) ?_ (Rn.begin W) dj (by omega) ?_ ?_
  · refine EvS.le (c0 := (0 + 1) + (0 + 0)) ((es_tup (esa_cons (P := intIn 2 7) (es_op (P2 := intIn 0 5) (es_ev fun n' => ev_int) (fun B' e => es_draw0 (m := 5) ne rfl (fun n' => ev_int) (by omega) (by omega)) ?_) (fun B' e => esa_cons (es_ev (d := .lst [.dic [] []]) fun n' => EvF.ev (ef_lst (ea_cons (EvG.ev eg_dict0) ea_nil) (show 1 ≤ sizeLine by decide))) fun _ _ => esa_nil)) ?_).imp ?_) (by omega)
    · rintro x y rfl ⟨i, rfl, h0, h1⟩
      exact ⟨.int (2 + i), ⟨2 + i, rfl, by omega, by omega⟩, fun M => rv_I0 rfl⟩
    · rintro ds ⟨d, r, rfl, _, d2, r2, rfl, _, rfl⟩
      show 2 ≤ sizeLine
      decide
    · rintro d ⟨ds, rfl, d1, r, rfl, ⟨m, rfl, h0, h1⟩, d2, r2, rfl, rfl, rfl⟩
      exact ⟨m, rfl, h0, by omega⟩
  · rintro B' d e ⟨m, rfl, h0, h1⟩
    exact tg_tup rfl (tgs_cons (tg_name fun B5 v5 e5 d5 => tgs_cons (tg_name fun B6 v6 e6 d6 => tgs_nil fun B7 e7 => ⟨m, v6, by rw [show v5 = .int m from d5]; rfl, h0, h1, d6.mono e7.le⟩)))
  rintro _ σ2 B1 H1 _ e1 k1 R1 ⟨m, v3, rfl, hm2, hm6, dv3⟩
  have hx1 := hx.mono e1.le
  -- the rows
  refine r_forSI (c := 0) (PI := fun l => l = V.ns.map D.str) (esi_ei (ei_list (ev_lv0 (ev_var (i := 1) rfl hx1)))) R1 dj (by omega)
    (fun ys i σ B' H' => ∃ (L : List D) (v3 : L2.V) (v4 v5 v6 : Option L2.V), σ = [some (.ref st), some x, some (.int m), some v3, v4, v5, v6, none, none] ∧ Rn (DL.St st t (n + 1 + 540 * i)) F0 H F0 B' H' ∧ Dt B' (.lst L) v3 ∧ L.length ≤ 180 ∧ ∀ d ∈ L, ∃ g : Str → Int, d = .dic ((V.ns.take i).map .inr) ((V.ns.take i).map fun a => .int (g a)))
    (fun ys i σ B' H' ⟨_, _, _, _, _, _, R, _⟩ => ⟨_, R⟩) (fun ys B' H' py e kk R => ⟨_, _, _, _, _, rfl, R, dv3.mono e.le, by show 1 ≤ 180; omega, fun d hd => ⟨fun _ => 0, by rw [List.mem_singleton] at hd; rw [hd]; rfl⟩⟩) ?_ ?_
  · rintro ys i d xv σ' Bb B2 H2 B3 H3 rfl eb eb1 hd' ⟨L, v3, v4, v5, v6, rfl, R2, dL, hL, hLd⟩ e3 k3 up3 dx
    rw [List.getElem?_map] at hd'
    obtain ⟨h, hh, rfl⟩ := Option.map_eq_some_iff.mp hd'
    have exv : xv = .str h := dx
    subst exv
    have hi16 : i < 16 := by have := (List.getElem?_eq_some_iff.mp hh).1; omega
    have R3 := up3 _ R2
    have dL3 := dL.mono e3.le
    have hnew : h ∉ V.ns.take i := fun hm => by
      have nd := pV.nd.sublist (List.take_sublist (i + 1) V.ns)
      rw [List.take_succ, hh, List.nodup_append] at nd
      exact nd.2.2 _ hm _ (by simp) rfl
    have etk : V.ns.take (i + 1) = V.ns.take i ++ [h] := by rw [List.take_succ, hh]; rfl
    refine r_setFN R3 (ef_lst (ds := []) ea_nil (Nat.zero_le _)) fun p vs B4 H4 fp e4 g4 R4 nF nS nF0 hp hd => ?_
    have hvs : vs = [] := DtL.nil_inv hd
    subst hvs
    have ns1 : p ≠ st := fun z => nS (by rw [z]; exact List.mem_cons_self)
    have ns2 : p ≠ t := fun z => nS (by rw [z]; exact List.mem_cons_of_mem _ List.mem_cons_self)
    have nS' : ∀ m, p ∉ (DL.St st t m).S := fun m z => by
      rcases List.mem_cons.mp z with z | z
      · exact ns1 z
      · rw [List.mem_singleton] at z; exact ns2 z
    have dj' : Dj st t (p :: F0) := ⟨fun z => (List.mem_cons.mp z).elim (fun z => ns1 z.symm) dj.1, fun z => (List.mem_cons.mp z).elim (fun z => ns2 z.symm) dj.2⟩
    have dL4 := dL3.mono e4.le
    have hcl : (DL.cutD L none (some 60)).length ≤ 60 := cut_le (by omega)
    refine r_forSI (c := 0) (PI := fun l => l = DL.cutD L none (some 60)) (esi_ei (ei_list (EvF.ev (ef_slL (ev_var (i := 3) rfl dL4) eo_none (eo_some ev_int))))) R4 dj' (by omega)
      (fun ys j σ B' H' => ∃ (Lg : List D) (vs : List L2.V) (v6 : Option L2.V), σ = [some (.ref st), some x, some (.int m), some v3, some (.str h), some (.ref p), v6, none, none] ∧ Rn (DL.St st t (n + 1 + 540 * i + 6 * j)) F0 H (p :: F0) B' H' ∧ H' p = some (.lst vs) ∧ DtL B' Lg vs ∧ Lg.length ≤ 3 * j ∧ ∀ d ∈ Lg, ∃ g : Str → Int, d = .dic ((V.ns.take (i + 1)).map .inr) ((V.ns.take (i + 1)).map fun a => .int (g a)))
      (fun ys j σ B' H' ⟨_, _, _, _, R, _⟩ => ⟨_, R⟩) (fun ys B' H' py e kk R => ⟨[], [], _, rfl, R, by rw [kk p List.mem_cons_self]; exact hp, DtL.nil, by show 0 ≤ _; omega, fun d hd => by cases hd⟩) ?_ ?_
    · rintro ys j d xv σ' Bc B5 H5 B6 H6 rfl ec ec1 hd' ⟨Lg, vs, v6, rfl, R5, hp5, hd5, hLg, hLgd⟩ e6 k6 up6 dx
      have hj60 : j < 60 := by have := (List.getElem?_eq_some_iff.mp hd').1; omega
      obtain ⟨g, rfl⟩ := hLd d (cut_sub d (List.mem_of_getElem? hd'))
      have R6 := up6 _ R5
      have hp6 : H6 p = some (.lst vs) := by rw [k6 p List.mem_cons_self]; exact hp5
      have hd6 := hd5.mono e6.le
      have hlv : vs.length = Lg.length := hd6.length
      refine r_extS (m := 3) (c := 6) (P := fun r => ∃ l, r = .lst l ∧ l.length ≤ 3 ∧ ∀ d ∈ l, ∃ g : Str → Int, d = .dic ((V.ns.take (i + 1)).map .inr) ((V.ns.take (i + 1)).map fun a => .int (g a))) ?_ (fun d ⟨l, e, h1, _⟩ => ⟨l, e, h1⟩) R6 dj' (by omega) List.mem_cons_self nF0 rfl hp6 (by omega) fun l ws B7 H7 ⟨l', el, hl3, hl⟩ e7 R7 hb7 dws => ?_
      · refine EvS.le (c0 := 6 + 0 * 3) ((es_lc (c0 := 6) (c := 0) (m := 3) (PI := fun ys => ys.length ≤ 3 ∧ ∀ d ∈ ys, ∃ w : Int, d = .int w) (PE := fun ys d y => ∃ g : Str → Int, y = .dic ((V.ns.take (i + 1)).map .inr) ((V.ns.take (i + 1)).map fun a => .int (g a))) (esi_list (P := fun d => ∃ l, d = .lst l ∧ l.length ≤ 3 ∧ ∀ d ∈ l, ∃ w : Int, d = .int w) (es_slL (lo := none) (hi := some 3) (EvS.le (es_mixed0 (th := .lst (rangeD 0 m.toNat)) ne rfl (fun n' => EvF.ev (ef_listRg (ev_vi rfl) (by omega) (by omega))) rfl (by rw [rangeD_length]; omega)) (by rw [rangeD_length]; omega)) (fun _ _ _ => eo_none) (fun _ _ _ => eo_some ev_int) ?_) (fun d ⟨l, e, h1, h2⟩ => ⟨l, e, h1, h2⟩)) (fun ys h => h.1) (by omega) (fun z => rfl) ?_).imp ?_) (by omega)
        · rintro d ⟨l', rfl, pl⟩
          refine ⟨l', rfl, _, rfl, cut_le (k := 3) (by omega), fun d hd => ?_⟩
          have := pl.mem_iff.mp (cut_sub d hd)
          unfold rangeD at this
          obtain ⟨k, _, rfl⟩ := List.mem_map.mp this
          exact ⟨_, rfl⟩
        · rintro ys ⟨_, hy⟩ d hd B' z e dz
          obtain ⟨w, rfl⟩ := hy d hd
          have ez : z = .int w := dz
          subst ez
          refine EvS.imp (es_ev (d := .dic ((V.ns.take (i + 1)).map .inr) ((V.ns.take (i + 1)).map fun a => D.int (if a = h then w else g a))) fun n' => ?_) fun d e => ⟨fun a => if a = h then w else g a, e⟩
          refine EvG.ev (eg_dictP (ns := V.ns.take (i + 1)) (g := fun a => D.int (if a = h then w else g a)) (EvF.ev (ef_is (ef_op (EvF.ev (ef_itemsR (ev_var rfl (dx.mono e.le)))) (EvF.ev (ef_lst (ea_cons (ev_tup (ea_cons (ev_vs (k := h) rfl) (ea_cons (ev_vi (k := w) rfl) ea_nil)) (show (2 : Nat) ≤ sizeLine by decide)) ea_nil) (show (1 : Nat) ≤ sizeLine by decide))) (rvf_cat ?_)) ?_)) (pV.nd.sublist (List.take_sublist _ _)))
          · rw [items_map, List.length_map]
            have : (V.ns.take i).length ≤ i := List.length_take_le _ _
            show _ + 1 ≤ _
            omega
          · rw [items_map, etk, List.map_append]
            have e1 : (V.ns.take i).map (fun a => D.tup [.str a, .int (g a)]) = (V.ns.take i).map (fun a => D.tup [.str a, .int (if a = h then w else g a)]) := List.map_congr_left fun a ha => by
              have : a ≠ h := fun z => hnew (by rw [← z]; exact ha)
              rw [if_neg this]
            rw [e1]
            show _ ++ [D.tup [.str h, .int w]] = _ ++ [D.tup [.str h, .int (if h = h then w else g h)]]
            rw [if_pos rfl]
        · rintro d ⟨ys, ds, ⟨hy3, _⟩, rfl, hdl, hPE⟩
          refine ⟨ds, rfl, by omega, fun d hd => ?_⟩
          obtain ⟨q, hq, eq⟩ := List.mem_iff_getElem.mp hd
          exact hPE q ys[q] d (List.getElem?_eq_getElem (by omega)) (by rw [List.getElem?_eq_getElem hq, eq])
      · cases el
        refine ⟨B7, (ec1.trans e6).trans e7, Lg ++ l, vs ++ ws, _, rfl, R7.upS (by omega), upd_same, DtL.append (hd6.mono e7.le) dws, by rw [List.length_append]; omega, fun d hd => ?_⟩
        rcases List.mem_append.mp hd with hd | hd
        · exact hLgd d hd
        · exact hl d hd
    · rintro ys σ' B5 H5 rfl e5 ⟨Lg, vs, v6, rfl, R5, hp5, hd5, hLg, hLgd⟩
      obtain ⟨R6, e6⟩ := R5.see (G := F0) (fun b hb => List.mem_cons_of_mem _ hb) (fun b hb => hb)
      have dl : Dt (Hd (DL.St st t (n + 1 + 540 * i + 6 * (DL.cutD L none (some 60)).length)) F0 H5) (.lst Lg) (.ref p) := lst_mk (hd_some.mpr ⟨⟨nS' _, nF0⟩, hp5⟩) (hd5.mono e6.le)
      refine es_mixed0 (th := .lst Lg) ne rfl (fun n' => ev_var (i := 5) rfl dl) rfl (by omega) _ F0 H F0 H5 _ (by omega) dj R6 fun v B7 H7 d ⟨l', ed, pl⟩ e7 k7 R7 dv => ?_
      subst ed
      refine ⟨B7, ((((eb1.trans e3).trans e4).trans e5).trans e6).trans e7, l', v, _, _, _, rfl, R7.upS (by omega), dv, by rw [pl.length_eq]; omega, fun d hd => hLgd d (pl.mem_iff.mp hd)⟩
  · rintro ys σ' B2 H2 rfl e2 ⟨L, v3', v4, v5, v6, rfl, R2, dL, hL, hLd⟩
    rw [List.length_map] at R2 hLd
    have hLd' : ∀ d ∈ L, ∃ g : Str → Int, d = .dic (V.ns.map .inr) (V.ns.map fun a => .int (g a)) := fun d hd => by
      have := hLd d hd
      rw [List.take_length] at this
      exact this
    have hx2 := hx1.mono e2.le
    have okr : ∀ g : Str → Int, okR C (rdgD V m g) := fun g => ⟨trivial, fun l hl u hu => by
      cases hl
      rcases List.mem_cons.mp hu with rfl | hu
      · exact ⟨trivial, fun ks l e => by cases e⟩
      · rw [List.mem_singleton] at hu
        subst hu
        refine ⟨trivial, fun ks l e => ?_⟩
        cases e
        refine ⟨by rw [List.length_map, List.length_map], nodup_inr pV.nd, fun u hu => ?_⟩
        obtain ⟨j, _, rfl⟩ := List.mem_map.mp hu
        trivial⟩
    have hcl : (DL.cutD L none (some 60)).length ≤ 60 := cut_le (by omega)
    refine r_set (d := .lst (((DL.cutD L none (some 60)).filter fun d => readD V (.tup [.int m, d])).map fun d => .tup [.int m, d])) R2 (EvF.ev (ef_lc (fun d => readD V (.tup [.int m, d])) (fun d => .tup [.int m, d]) (ei_list (EvF.ev (ef_slL (ev_var (i := 3) rfl dL) eo_none (eo_some ev_int)))) (by omega) fun d hd => ?_)) fun v8 B3 H3 e3 g3 R3 dv8 => ?_
    · obtain ⟨g, rfl⟩ := hLd' d (cut_sub d hd)
      refine turn_name (fun _ => rfl) fun B' z e dz => ⟨et_val (ev_callQ (inp := fun p : Vl × D => [lvD p.1, p.2]) (f := fun p : Vl × D => .bl (readD p.1 p.2)) (V, rdgD V m g) (ea_cons (ev_var (i := 1) rfl (hx2.mono e.le)) (ea_cons (ev_tup (ea_cons (ev_vi rfl) (ea_cons (ev_var rfl dz) ea_nil)) (show (2 : Nat) ≤ sizeLine by decide)) ea_nil)) ⟨pV, okr g⟩), fun _ => ev_tup (ea_cons (ev_vi rfl) (ea_cons (ev_var rfl dz) ea_nil)) (show (2 : Nat) ≤ sizeLine by decide)⟩
    · obtain ⟨gs, egs, hgs⟩ := choose_rdg (V := V) (m := m) (l := ((DL.cutD L none (some 60)).filter fun d => readD V (.tup [.int m, d])).map fun d => .tup [.int m, d]) fun d hd => by
        obtain ⟨d', hd', rfl⟩ := List.mem_map.mp hd
        obtain ⟨h1, h2⟩ := List.mem_filter.mp hd'
        obtain ⟨g, rfl⟩ := hLd' d' (cut_sub d' h1)
        exact ⟨g, rfl, h2⟩
      rw [egs] at dv8
      have hx3 := hx2.mono e3.le
      have hc3 : (DL.cutD (gs.map (rdgD V m)) none (some 3)).length ≤ 3 := cut_le (by omega)
      obtain ⟨gs3, eg3, hg3⟩ := choose_rdg (V := V) (m := m) (l := DL.cutD (gs.map (rdgD V m)) none (some 3)) fun d hd => by
        obtain ⟨g, hg, rfl⟩ := List.mem_map.mp (cut_sub d hd)
        exact ⟨g, rfl, hgs g hg⟩
      have hl3 : gs3.length ≤ 3 := by
        rw [eg3, List.length_map] at hc3
        exact hc3
      refine r_ret (d := .lst ((gs3 ++ [fun _ => m - 1]).map (rdgD V m))) (R3.upS (m := n + 10000) (by omega)) (EvF.ev (ef_is (ef_op (d1 := .lst (gs3.map (rdgD V m))) (d2 := .lst [rdgD V m fun _ => m - 1]) (EvF.ev (ef_is (ef_slL (ev_var (i := 8) rfl dv8) eo_none (eo_some ev_int)) eg3)) (EvF.ev (ef_lst (ea_cons (ev_tup (ea_cons (ev_vi rfl) (ea_cons (EvG.ev (eg_dictP (ns := V.ns) (g := fun _ => D.int (m - 1)) (EvF.ev (ef_is (ef_lcmA (ys := V.ns) (en := D.str) (fun a => .tup [.str a, .int (m - 1)]) (ei_list (ev_lv0 (ev_var (i := 1) rfl hx3))) (by omega) fun a ha => ?_) rfl)) pV.nd)) ea_nil)) (show (2 : Nat) ≤ sizeLine by decide)) ea_nil) (show (1 : Nat) ≤ sizeLine by decide))) (rvf_cat ?_)) ?_)) fun v H' g' d' => kf v H' _ ⟨m, _, rfl, hm2, hm6, ?_, ?_⟩ g' d'
      · exact turn_name (fun _ => rfl) fun B' z e dz => ⟨et_yes, fun _ => ev_tup (ea_cons (ev_var rfl dz) (ea_cons (ev_op (ev_vi (k := m) rfl) ev_int (rv_I0 rfl)) ea_nil)) (show (2 : Nat) ≤ sizeLine by decide)⟩
      · rw [List.length_map]
        show gs3.length + 1 ≤ _
        omega
      · rw [List.map_append]; rfl
      · rw [List.length_append]
        show gs3.length + 1 ≤ 4
        omega
      · intro g hg
        rcases List.mem_append.mp hg with hg | hg
        · exact hg3 g hg
        · rw [List.mem_singleton] at hg
          rw [hg]
          exact const_read pV hm2
end
end Pg

namespace Pg
open PySem PySem.Spec PyProof.Rows L2 DL RX RZ LiI
/-! ### bent texts, plain: how long, of which signs -/
def wt (ls : List Str) : Nat := (ls.map (·.length)).sum + ls.length
theorem wt_cons (a : Str) (l : List Str) : wt (a :: l) = a.length + 1 + wt l := by
  unfold wt
  rw [List.map_cons, List.sum_cons, List.length_cons]; omega
theorem wt_nil : wt [] = 0 := rfl
theorem wt_append : ∀ a b : List Str, wt (a ++ b) = wt a + wt b
  | [], b => by rw [List.nil_append, wt_nil]; omega
  | x :: a, b => by rw [List.cons_append, wt_cons, wt_cons, wt_append a b]; omega
theorem wt_take : ∀ (l : List Str) (k : Nat), wt (l.take k) ≤ wt l
  | l, 0 => by rw [List.take_zero, wt_nil]; omega
  | [], k + 1 => by rw [List.take_nil]; exact Nat.le_refl _
  | a :: l, k + 1 => by rw [List.take_succ_cons, wt_cons, wt_cons]; have := wt_take l k; omega
theorem wt_drop : ∀ (l : List Str) (k : Nat), wt (l.drop k) ≤ wt l
  | l, 0 => by rw [List.drop_zero]; exact Nat.le_refl _
  | [], k + 1 => by rw [List.drop_nil]; exact Nat.le_refl _
  | a :: l, k + 1 => by rw [List.drop_succ_cons, wt_cons]; have := wt_drop l k; omega
theorem wt_mem {l : List Str} {a : Str} (h : a ∈ l) : a.length + 1 ≤ wt l := by
  induction l with
  | nil => cases h
  | cons b l ih =>
    rw [wt_cons]
    rcases List.mem_cons.mp h with rfl | h
    · omega
    · have := ih h; omega
theorem wt_set : ∀ (l : List Str) (i : Nat) (u a : Str), l[i]? = some a → wt (l.set i u) + a.length = wt l + u.length
  | [], i, u, a, h => by simp at h
  | b :: l, 0, u, a, h => by
    have : b = a := by simpa using h
    subst this
    rw [List.set_cons_zero, wt_cons, wt_cons]; omega
  | b :: l, i + 1, u, a, h => by
    have := wt_set l i u a (by simpa using h)
    rw [List.set_cons_succ, wt_cons, wt_cons]; omega
theorem join_len (sep : Str) : ∀ l : List Str, l ≠ [] → (Str.join sep l).length + sep.length = (l.map (·.length)).sum + l.length * sep.length
  | [], h => absurd rfl h
  | [x], _ => by
    show x.length + sep.length = x.length + 0 + 1 * sep.length
    omega
  | x :: y :: r, _ => by
    have ih := join_len sep (y :: r) (by simp)
    have e : Str.join sep (x :: y :: r) = x ++ sep ++ Str.join sep (y :: r) := rfl
    rw [e, cat_len, cat_len, List.map_cons, List.sum_cons, List.length_cons, Nat.add_mul, Nat.one_mul]
    omega
theorem one_len {c : Nat} : (⟨#[c]⟩ : Str).length = 1 := rfl
theorem nl_len : nl.length = 1 := by decide +kernel
theorem sp_len : (" " : Str).length = 1 := by decide +kernel
theorem split_wt {sep : Str} (h1 : sep.length = 1) (z : Str) : wt (Txt.split z sep) = z.length + 1 := by
  have h := join_len sep (Txt.split z sep) split_ne
  rw [StrLaws.join_split, h1, Nat.mul_one] at h
  unfold wt
  omega
theorem join_wt {sep : Str} (h1 : sep.length = 1) (l : List Str) : (Txt.join sep l).length ≤ wt l := by
  rw [TL.join_eq]
  by_cases h : l = []
  · subst h; exact Nat.zero_le _
  · have := join_len sep l h
    rw [h1, Nat.mul_one] at this
    unfold wt
    omega
def AscL (l : List Str) : Prop := ∀ s ∈ l, Asc s
theorem asc_cat {a b : Str} (ha : Asc a) (hb : Asc b) : Asc (a ++ b) := fun c hc => by
  have : c ∈ TL.tl (a ++ b) := hc
  rw [TL.tl_append] at this
  rcases List.mem_append.mp this with h | h
  · exact ha c h
  · exact hb c h
theorem asc_join {sep : Str} (hs : Asc sep) : ∀ l : List Str, AscL l → Asc (Str.join sep l)
  | [], _ => fun c hc => by cases hc
  | [x], h => h x (by simp)
  | x :: y :: r, h => by
    have e : Str.join sep (x :: y :: r) = x ++ sep ++ Str.join sep (y :: r) := rfl
    rw [e]
    exact asc_cat (asc_cat (h x (by simp)) hs) (asc_join hs (y :: r) fun s hs => h s (List.mem_cons_of_mem _ hs))
theorem asc_cut {z : Str} {lo hi : Option Int} (h : Asc z) : Asc (cutS z lo hi) := fun c hc => by
  unfold cutS at hc
  exact h c (List.mem_of_mem_drop (List.mem_of_mem_take hc))
theorem asc_by {s : Str} (h : s.cps.toList.all (fun c => decide (c < 128)) = true) : Asc s := fun c hc => of_decide_eq_true (List.all_eq_true.mp h c hc)
theorem ascL_split {a b : Str} (h : Asc a) : AscL (Txt.split a b) := fun s hs => h.split hs
theorem ascL_set {l : List Str} {i : Nat} {u : Str} (h : AscL l) (hu : Asc u) : AscL (l.set i u) := fun s hs => by
  rcases List.mem_or_eq_of_mem_set hs with h1 | h1
  · exact h s h1
  · rw [h1]; exact hu
theorem swap_wt {l : List Str} {i j : Nat} {a b : Str} (ha : l[i]? = some a) (hb : l[j]? = some b) : wt ((l.set i b).set j a) = wt l := by
  have h1 := wt_set l i b a ha
  have hj : (l.set i b)[j]? = some b := by
    by_cases z : i = j
    · subst z
      rw [List.getElem?_set_self (List.getElem?_eq_some_iff.mp ha).1]
    · rw [List.getElem?_set_ne z]; exact hb
  have h2 := wt_set (l.set i b) j a b hj
  omega
def cutL (l : List Str) (lo hi : Option Int) : List Str := (l.drop (HT.sIx l.length 0 lo)).take (HT.sIx l.length l.length hi - HT.sIx l.length 0 lo)
theorem cutD_map (l : List Str) (lo hi : Option Int) : DL.cutD (l.map D.str) lo hi = (cutL l lo hi).map D.str := by
  unfold DL.cutD cutL
  rw [List.length_map, ← List.map_drop, ← List.map_take]
theorem cutL_wt (l : List Str) (lo hi : Option Int) : wt (cutL l lo hi) ≤ wt l := Nat.le_trans (wt_take _ _) (wt_drop _ _)
theorem cutL_mem {l : List Str} {lo hi : Option Int} {s : Str} (h : s ∈ cutL l lo hi) : s ∈ l := List.mem_of_mem_drop (List.mem_of_mem_take h)
theorem cutL_hd {l : List Str} {k : Nat} (hk : k ≤ l.length) : cutL l none (some (k : Nat)) = l.take k := by
  unfold cutL
  have e : HT.sIx l.length l.length (some ((k : Nat) : Int)) = k := by
    unfold HT.sIx
    dsimp only
    split <;> omega
  rw [e]
  show (l.drop 0).take (k - 0) = _
  rw [List.drop_zero, Nat.sub_zero]
theorem cutL_tl {l : List Str} {k : Nat} (hk : k ≤ l.length) : cutL l (some (k : Nat)) none = l.drop k := by
  unfold cutL
  have e : HT.sIx l.length 0 (some ((k : Nat) : Int)) = k := by
    unfold HT.sIx
    dsimp only
    split <;> omega
  rw [e]
  show (l.drop k).take (l.length - k) = _
  rw [List.take_of_length_le]
  rw [List.length_drop]
  exact Nat.le_refl _
end Pg

namespace Pg
open PySem PySem.Spec PyProof.Rows L2 DL RX RZ LiI
section
variable {P : Program} {w : World} {K : PySem.W.Frag} {mg : Str → Option Value} {base : Heap} {f C : Addr} {fd : FuncData} {M : Md} {σ : L2.St} {B : Hp} {te ta tb : TE} {V : Vl} {d : D} {F0 F : List Addr} {H0 H : Hp} {De : Ends} {tz : TS}
theorem r_parFS {s t : Addr} {n c : Nat} {i j : Nat} {ds : List D} {P2 : D → Prop} (R : Rn (DL.St s t n) F0 H0 F B H) (dj : Dj s t F) (h1 : EvF (DL.St s t n) ta σ B ds) (h2 : ∀ B', Ex B B' → EvS s t c tb σ B' P2) (hc : n + c ≤ 2 ^ 40)
    (k : ∀ p vs v B' H' d, P2 d → DL.Fr H0 p → Ex B B' → Rn (DL.St s t (n + c)) F0 H0 (p :: F) B' H' → p ∉ F → p ≠ s → p ≠ t → p ∉ F0 → H' p = some (.lst vs) → DtL B' ds vs → Dt B' d v → tz De ((σ.set i (some (.ref p))).set j (some v)) H') : tSeq (tPar i j (tCons ta (tCons tb tNil))) tz De σ H :=
  h1 F H _ R.w fun p vs H1 f g e hd => by
    obtain ⟨Rk, xk, n1, n2⟩ := R.own g f e rfl
    have ns : p ≠ s := fun z => n2 (by rw [z]; exact List.mem_cons_self)
    have nt : p ≠ t := fun z => n2 (by rw [z]; exact List.mem_cons_of_mem _ List.mem_cons_self)
    refine h2 _ xk n F0 H0 (p :: F) H1 _ hc ⟨fun z => (List.mem_cons.mp z).elim (fun z => ns z.symm) dj.1, fun z => (List.mem_cons.mp z).elim (fun z => nt z.symm) dj.2⟩ Rk fun v B2 H2 d pd e2 k2 R2 dv => ?_
    exact ⟨_, _, rfl, k p vs v B2 H2 d pd (R.fr f) (xk.trans e2) R2 n1 ns nt (fun z => n1 (R.s p z)) (by rw [k2 p List.mem_cons_self]; exact e) (hd.mono e2.le) dv⟩
theorem i_par {i j : Nat} {tr : TA} (h : tr σ H fun vs H1 => ∃ u v, vs = [u, v] ∧ tz De ((σ.set i (some u)).set j (some v)) H1) : tSeq (tPar i j tr) tz De σ H := h
theorem r_ifJ2 {tt : TT} {tu tw : TS} {b : Bool} (R : Rn M F0 H0 F B H) (h : EvT M tt σ B b) (J : L2.St → Hp → Prop)
    (h1 : b = true → ∀ B' H' (N : L2.St → Hp → Prop), Ex B B' → Go M F H H' → Rn M F0 H0 F B' H' → (∀ σ2 H2, J σ2 H2 → N σ2 H2) → tu { De with nx := N } σ H')
    (h2 : b = false → ∀ B' H' (N : L2.St → Hp → Prop), Ex B B' → Go M F H H' → Rn M F0 H0 F B' H' → (∀ σ2 H2, J σ2 H2 → N σ2 H2) → tw { De with nx := N } σ H')
    (k : ∀ σ2 H2, J σ2 H2 → tz De σ2 H2) : tSeq (tIfS tt tu tw) tz De σ H :=
  r_if R h (fun q B' H' e g R' => h1 q B' H' (tz De) e g R' k) (fun q B' H' e g R' => h2 q B' H' (tz De) e g R' k)
theorem ixN_nat {n : Nat} {j : Int} (h0 : 0 ≤ j) (h1 : j < ((n : Nat) : Int)) : ixN n j = some j.toNat := by unfold ixN; rw [if_pos h0, if_pos h1]
theorem atI_str {ls : List Str} {j : Int} {s : Str} (h0 : 0 ≤ j) (h : ls[j.toNat]? = some s) : atI (ls.map L2.V.str) j = some (.str s) := by
  have hl := (List.getElem?_eq_some_iff.mp h).1
  unfold atI
  rw [List.length_map, ixN_nat h0 (by omega)]
  show (ls.map L2.V.str)[j.toNat]? = _
  rw [List.getElem?_map, h]; rfl
theorem len_wt (l : List Str) : l.length ≤ wt l := by unfold wt; omega
def smallOk (us : List Str) : Bool := us.all fun u => decide (u.length ≤ 10) && u.cps.toList.all fun c => decide (c < 128)
theorem small_of {us : List Str} (h : smallOk us = true) {d : D} (hd : d ∈ us.map D.str) : ∃ u : Str, d = .str u ∧ u.length ≤ 10 ∧ Asc u := by
  obtain ⟨u, hu, rfl⟩ := List.mem_map.mp hd
  have := List.all_eq_true.mp h u hu
  rw [Bool.and_eq_true] at this
  exact ⟨u, rfl, of_decide_eq_true this.1, asc_by this.2⟩
abbrev us13 : List Str := ["", "a", "0", "-0", "01", "1", "2", "7", "-1", "weigh", "reading", "+1", "A"]
abbrev us5 : List Str := [" ", "\n", "a", "0", "1"]
abbrev us3 : List Str := ["\n", "reading 2\n", "x"]
abbrev Sp_bent := SpS (α := Str) (fun _ => 10) (fun z => [.str z]) (fun z => z.length ≤ 300 ∧ Asc z) (fun z d => ∃ y : Str, d = .str y ∧ y.length ≤ 2 * z.length + 16 ∧ Asc y)
abbrev N_bent : List Str := ["stream", "text", "lines", "way", "at", "to", "words", "place"]
theorem ok_bent {a1 a2 : Addr} (F : Fun K "_law_bent" "_law_bent" s_law_bent f fd) (N : Bn mg) (g1 : mg "_law_draw" = some (.ref a1)) (O1 : OkF P w K mg base 1 a1 ["stream", "many"] Sp_draw) (g2 : mg "_law_pick" = some (.ref a2)) (O2 : OkF P w K mg base 2 a2 ["stream", "things"] Sp_pick) :
    FnOk P w K mg base CX0 3 f fd ["stream", "text"] Sp_bent := by
  refine F.ok sc_law_bent (SpS.len fun _ => rfl) (fun cdv A outer s H vs Q E hr h => ?_)
  obtain ⟨st, t, n, F0, z, ws, rfl, dj, ne, W, hw, ⟨hz1, hz2⟩, hc, kf⟩ := h
  obtain ⟨x, rfl, hx⟩ := one_inv hw
  have ex : x = .str z := hx
  subst ex
  have hr1 := hr.mono (show 1 ≤ 2 by decide)
  refine ⟨_, pss_cons (ps_par (i := 2) (j := 3) (by rfl) sc_law_bent.nd rfl rfl (by decide) rfl rfl (pa_cons (pe_split (pv 1) pe_str) (pa_cons (pe_c O1 hr1 g1 (pa_cons (pv 0) (pa_cons pe_int pa_nil))) pa_nil)) (by rfl))
    (pss_cons (ps_par (i := 4) (j := 5) (by rfl) sc_law_bent.nd rfl rfl (by decide) rfl rfl (pa_cons (pe_c O1 hr1 g1 (pa_cons (pv 0) (pa_cons (pe_callB call_len_seq (by rfl) N.len PySem.boot_len (pa_cons (pv 2) pa_nil)) pa_nil))) (pa_cons (pe_c O1 hr1 g1 (pa_cons (pv 0) (pa_cons (pe_callB call_len_seq (by rfl) N.len PySem.boot_len (pa_cons (pv 2) pa_nil)) pa_nil))) pa_nil)) (by rfl))
    (pss_cons (ps_if (pt_cmpR op_eq (pv 3) pe_int (nomark _))
      (pss_one (ps_set (i := 2) sc_law_bent.nd rfl (Or.inl rfl) (pe_op op_cat (pe_slice sl_list (pv 2) po_none (po_some (pv 4))) (pe_slice sl_list (pv 2) (po_some (pe_op op_add (pv 4) pe_int)) po_none))))
      (pss_one (ps_if (pt_cmpR op_eq (pv 3) pe_int (nomark _))
        (pss_one (ps_set (i := 2) sc_law_bent.nd rfl (Or.inl rfl) (pe_op op_cat (pe_op op_cat (pe_slice sl_list (pv 2) po_none (po_some (pv 4))) (pe_slice sl_list (pv 2) (po_some (pv 4)) (po_some (pe_op op_add (pv 4) pe_int)))) (pe_slice sl_list (pv 2) (po_some (pv 4)) po_none))))
        (pss_one (ps_if (pt_cmpR op_eq (pv 3) pe_int (nomark _))
          (pss_one (ps_asg (g := gTup K 2 (gCons (gSub (tVar 2) (tVar 4) rSetL) (gCons (gSub (tVar 2) (tVar 5) rSetL) gNil))) (pe_tup (pa_cons (pe_ix ix_seq (pv 2) (pv 5) (fun _ _ => rfl)) (pa_cons (pe_ix ix_seq (pv 2) (pv 4) (fun _ _ => rfl)) pa_nil))) (by exact pg_tup (by rfl) (pgs_cons (pg_sub (pv 2) (pv 4) set_list) (pgs_cons (pg_sub (pv 2) (pv 5) set_list) pgs_nil)))))
          (pss_one (ps_if (pt_cmpR op_eq (pv 3) pe_int (nomark _))
            (pss_cons (ps_set (i := 6) sc_law_bent.nd rfl (Or.inl rfl) (pe_split (pe_ix ix_seq (pv 2) (pv 4) (fun _ _ => rfl)) pe_str))
            (pss_cons (ps_asg (pe_c O2 hr g2 (pa_cons (pv 0) (pa_cons (pe_lst (pa_cons pe_str (pa_cons pe_str (pa_cons pe_str (pa_cons pe_str (pa_cons pe_str (pa_cons pe_str (pa_cons pe_str (pa_cons pe_str (pa_cons pe_str (pa_cons pe_str (pa_cons pe_str (pa_cons pe_str (pa_cons pe_str pa_nil)))))))))))))) pa_nil))) (pg_sub (pv 6) (pe_c O1 hr1 g1 (pa_cons (pv 0) (pa_cons (pe_callB call_len_seq (by rfl) N.len PySem.boot_len (pa_cons (pv 6) pa_nil)) pa_nil))) set_list))
            (pss_one (ps_asg (pe_join pe_str (pv 6)) (pg_sub (pv 2) (pv 4) set_list)))))
            (pss_one (ps_if (pt_cmpR op_eq (pv 3) pe_int (nomark _))
              (pss_cons (ps_set (i := 7) sc_law_bent.nd rfl (Or.inl rfl) (pe_c O1 hr1 g1 (pa_cons (pv 0) (pa_cons (pe_op op_add (pe_callB call_len_str (by rfl) N.len PySem.boot_len (pa_cons (pv 1) pa_nil)) pe_int) pa_nil))))
              (pss_one (ps_ret (pe_op op_add_str (pe_op op_add_str (pe_slice sl_str (pv 1) po_none (po_some (pv 7))) (pe_c O2 hr g2 (pa_cons (pv 0) (pa_cons (pe_lst (pa_cons pe_str (pa_cons pe_str (pa_cons pe_str (pa_cons pe_str (pa_cons pe_str pa_nil)))))) pa_nil)))) (pe_slice sl_str (pv 1) (po_some (pv 7)) po_none)))))
              (pss_one (ps_if (pt_cmpR op_eq (pv 3) pe_int (nomark _))
                (pss_one (ps_ret (pe_slice sl_str (pv 1) po_none (po_some (pe_c O1 hr1 g1 (pa_cons (pv 0) (pa_cons (pe_op op_add (pe_callB call_len_str (by rfl) N.len PySem.boot_len (pa_cons (pv 1) pa_nil)) pe_int) pa_nil)))))))
                (pss_one (ps_if (pt_cmpR op_eq (pv 3) pe_int (nomark _))
                  (pss_one (ps_ret (pe_op op_add_str (pv 1) (pe_c O2 hr g2 (pa_cons (pv 0) (pa_cons (pe_lst (pa_cons pe_str (pa_cons pe_str (pa_cons pe_str pa_nil)))) pa_nil)))))) pss_nil)))))))))))))
    (pss_one (ps_ret (pe_join pe_str (pv 2)))))), ?_⟩
  have hz1 : z.length ≤ 300 := hz1
  have hz2 : Asc z := hz2
  have hc : n + 10 ≤ 2 ^ 40 := hc
  have hsz : (4000 : Nat) < sizeLine := by decide
  have hb16 : (4000 : Nat) ≤ 16777216 := by decide
  have fin : ∀ {m : Nat} {y : Str} {H' : Hp} {B' : Hp} {F' : List Addr}, m ≤ n + 10 → Rn (DL.St st t m) F0 H F' B' H' → y.length ≤ 2 * z.length + 16 → Asc y → Q (.str y) H' := fun hm R hy ha => kf _ _ (.str _) ⟨_, rfl, hy, ha⟩ (R.upS (m := n + 10) hm).go rfl
  refine r_parFS (c := 1) (P2 := intIn 0 7) (Rn.begin W) dj (ef_split (a := z) (b := nl) (ev_vs rfl) ev_str (by rw [nl_len]; rfl) (by omega)) (fun B' e => es_draw0 (m := 7) ne rfl (fun n' => ev_int) (by omega) (by omega)) (by omega) fun p vs v3 B1 H1 d3 ⟨way, ed3, hw0, hw7⟩ fp e1 R1 nF ns1 ns2 nF0 hp hd dv3 => ?_
  subst ed3
  have ev3 : v3 = .int way := dv3
  subst ev3
  obtain ⟨ls, els⟩ : ∃ ls, ls = Txt.split z nl := ⟨_, rfl⟩
  rw [← els] at hd
  have evs := hd.strs
  subst evs
  have hwt : wt ls = z.length + 1 := by rw [els]; exact split_wt nl_len z
  have hal : AscL ls := by rw [els]; exact ascL_split hz2
  have hl1 : 1 ≤ ls.length := by
    rw [els]
    exact List.length_pos_iff.mpr split_ne
  have hll := len_wt ls
  have dj' : Dj st t (p :: F0) := ⟨fun z => (List.mem_cons.mp z).elim (fun z => ns1 z.symm) dj.1, fun z => (List.mem_cons.mp z).elim (fun z => ns2 z.symm) dj.2⟩
  have nS' : ∀ m, p ∉ (DL.St st t m).S := fun m z => by
    rcases List.mem_cons.mp z with z | z
    · exact ns1 z
    · rw [List.mem_singleton] at z; exact ns2 z
  have hlm : (ls.map L2.V.str).length = ls.length := List.length_map _
  refine i_par (i_cons (x_draw (m := ((ls.length : Nat) : Int)) R1 dj' ne rfl (fun Q q => x_lenL rfl hp (by rw [hlm]; exact q)) (by omega) (by omega) (by omega) fun a B2 H2 ha0 ha1 e2 k2 R2 => i_cons (x_draw (m := ((ls.length : Nat) : Int)) R2 dj' ne rfl (fun Q q => x_lenL rfl (by rw [k2 p List.mem_cons_self]; exact hp) (by rw [hlm]; exact q)) (by omega) (by omega) (by omega) fun b B3 H3 hb0 hb1 e3 k3 R3 => ⟨_, _, rfl, ?_⟩)))
  have hp3 : H3 p = some (.lst (ls.map L2.V.str)) := by rw [k3 p List.mem_cons_self, k2 p List.mem_cons_self]; exact hp
  obtain ⟨sa, hsa⟩ : ∃ s, ls[a.toNat]? = some s := ⟨_, List.getElem?_eq_getElem (by omega)⟩
  obtain ⟨sb, hsb⟩ : ∃ s, ls[b.toNat]? = some s := ⟨_, List.getElem?_eq_getElem (by omega)⟩
  have R3' : Rn (DL.St st t (n + 3)) F0 H (p :: F0) B3 H3 := R3
  have seen : ∀ {m : Nat} {B' H' : Hp} {ls' : List Str} {F' : List Addr}, Rn (DL.St st t m) F0 H F' B' H' → (∀ b ∈ F0, b ∈ F') → H' p = some (.lst (ls'.map L2.V.str)) → Rn (DL.St st t m) F0 H F0 (Hd (DL.St st t m) F0 H') H' ∧ Dt (Hd (DL.St st t m) F0 H') (.lst (ls'.map .str)) (.ref p) := fun R hs h =>
    ⟨(R.see (G := F0) hs (fun b hb => hb)).1, lst_mk (hd_some.mpr ⟨⟨nS' _, nF0⟩, h⟩) (DtL.ofStrs _)⟩
  have sub1 : ∀ b ∈ F0, b ∈ p :: F0 := fun b hb => List.mem_cons_of_mem _ hb
  refine r_ifJ2 (b := decide (way = 0)) R3' (et_cmp (ev_op (ev_vi rfl) ev_int rv_eqI)) (fun σ H' => ∃ (ls : List Str) (v2 : L2.V) (v6 v7 : Option L2.V) (B' : Hp), σ = [some (.ref st), some (.str z), some v2, some (.int way), some (.int a), some (.int b), v6, v7] ∧ Rn (DL.St st t (n + 10)) F0 H F0 B' H' ∧ Dt B' (.lst (ls.map .str)) v2 ∧ wt ls ≤ 2 * z.length + 16 ∧ AscL ls) (fun q B4 H4 Nn e4 g4 R4 kn => ?_) (fun q B4 H4 Nn e4 g4 R4 kn => ?_) ?_
  · -- one line less
    obtain ⟨R5, dls⟩ := seen R4 sub1 (by rw [g4.x p List.mem_cons_self]; exact hp3)
    have w1 := cutL_wt ls none (some a)
    have w2 := cutL_wt ls (some (a + 1)) none
    have l1 := len_wt (cutL ls none (some a))
    have l2 := len_wt (cutL ls (some (a + 1)) none)
    refine r_ev R5 (d := .lst ((cutL ls none (some a) ++ cutL ls (some (a + 1)) none).map .str)) (EvF.ev (ef_is (ef_op (EvF.ev (ef_slL (ev_var (i := 2) rfl dls) eo_none (eo_some (ev_vi (k := a) rfl)))) (EvF.ev (ef_slL (ev_var (i := 2) rfl dls) (eo_some (ev_op (ev_vi (k := a) rfl) ev_int (rv_I0 rfl))) eo_none)) (rvf_cat ?_)) ?_)) fun v B6 H6 e6 g6 R6 dv => kn _ _ ⟨_, v, _, _, _, rfl, R6.upS (by omega), dv, ?_, fun s hs => ?_⟩
    · rw [cutD_map, cutD_map, List.length_map, List.length_map]; omega
    · rw [cutD_map, cutD_map, List.map_append]
    · rw [wt_append]; omega
    · rcases List.mem_append.mp hs with h | h
      · exact hal s (cutL_mem h)
      · exact hal s (cutL_mem h)
  refine r_if1 (b := decide (way = 1)) R4 (et_cmp (ev_op (ev_vi rfl) ev_int rv_eqI)) (fun q1 B5 H5 e5 g5 R5 => ?_) (fun q1 B5 H5 e5 g5 R5 => ?_)
  · -- a line twice
    obtain ⟨R6, dls⟩ := seen R5 sub1 (by rw [g5.x p List.mem_cons_self, g4.x p List.mem_cons_self]; exact hp3)
    have ean : a = ((a.toNat : Nat) : Int) := by omega
    have h1 : cutL ls none (some a) = ls.take a.toNat := by
      conv => lhs; rw [ean]
      exact cutL_hd (by omega)
    have h2 : cutL ls (some a) none = ls.drop a.toNat := by
      conv => lhs; rw [ean]
      exact cutL_tl (by omega)
    have w2 := cutL_wt ls (some a) (some (a + 1))
    have w3 : wt (ls.take a.toNat) + wt (ls.drop a.toNat) = wt ls := by rw [← wt_append, List.take_append_drop]
    have l1 := len_wt (ls.take a.toNat)
    have l2 := len_wt (cutL ls (some a) (some (a + 1)))
    have l3 := len_wt (ls.drop a.toNat)
    refine r_ev R6 (d := .lst ((ls.take a.toNat ++ cutL ls (some a) (some (a + 1)) ++ ls.drop a.toNat).map .str)) (EvF.ev (ef_is (ef_op (d1 := .lst ((ls.take a.toNat).map .str ++ (cutL ls (some a) (some (a + 1))).map .str)) (EvF.ev (ef_is (ef_op (EvF.ev (ef_slL (ev_var (i := 2) rfl dls) eo_none (eo_some (ev_vi (k := a) rfl)))) (EvF.ev (ef_slL (ev_var (i := 2) rfl dls) (eo_some (ev_vi (k := a) rfl)) (eo_some (ev_op (ev_vi (k := a) rfl) ev_int (rv_I0 rfl))))) (rvf_cat ?_)) ?_)) (EvF.ev (ef_slL (ev_var (i := 2) rfl dls) (eo_some (ev_vi (k := a) rfl)) eo_none)) (rvf_cat ?_)) ?_)) fun v B7 H7 e7 g7 R7 dv => kn _ _ ⟨_, v, _, _, _, rfl, R7.upS (by omega), dv, ?_, fun s hs => ?_⟩
    · rw [cutD_map, cutD_map, List.length_map, List.length_map, h1]; omega
    · rw [cutD_map, cutD_map, h1]
    · rw [cutD_map, List.length_append, List.length_map, List.length_map, List.length_map, h2]; omega
    · rw [cutD_map, h2, List.map_append, List.map_append]
    · rw [wt_append, wt_append]; omega
    · rcases List.mem_append.mp hs with h | h
      · rcases List.mem_append.mp h with h | h
        · exact hal s (List.mem_of_mem_take h)
        · exact hal s (cutL_mem h)
      · exact hal s (List.mem_of_mem_drop h)
  have hp5 : H5 p = some (.lst (ls.map L2.V.str)) := by rw [g5.x p List.mem_cons_self, g4.x p List.mem_cons_self]; exact hp3
  refine r_if1 (b := decide (way = 2)) R5 (et_cmp (ev_op (ev_vi rfl) ev_int rv_eqI)) (fun q2 B6 H6 e6 g6 R6 => ?_) (fun q2 B6 H6 e6 g6 R6 => ?_)
  · -- two lines change
    have hp6 : H6 p = some (.lst (ls.map L2.V.str)) := by rw [g6.x p List.mem_cons_self]; exact hp5
    refine ⟨_, rfl, _, rfl, .inl ⟨p, _, b, .str sb, rfl, rfl, SqL.of hp6, atI_str hb0 hsb, _, rfl, _, rfl, .inl ⟨p, _, a, .str sa, rfl, rfl, SqL.of hp6, atI_str ha0 hsa, (show 2 ≤ sizeLine by decide), fun tp htp => ⟨tp, _, rfl, SqT.of upd_same, rfl, _, _, rfl, ?_⟩⟩⟩⟩
    have ntp : p ≠ tp := fun z => by rw [← z, hp6] at htp; cases htp
    have R7 := R6.step (R6.w.new htp (.tup [.str sb, .str sa]))
    have hp7 : upd H6 tp (.tup [.str sb, .str sa]) p = some (.lst (ls.map L2.V.str)) := by rw [upd_ne ntp]; exact hp6
    have R8 := R7.put (p := p) (o := .lst ((ls.map L2.V.str).set a.toNat (.str sb))) List.mem_cons_self (nS' _) nF0 rfl
    have R9 := R8.put (p := p) (o := .lst (((ls.map L2.V.str).set a.toNat (.str sb)).set b.toNat (.str sa))) List.mem_cons_self (nS' _) nF0 rfl
    refine ⟨_, rfl, _, rfl, p, _, a, a.toNat, rfl, rfl, hp7, ixN_nat ha0 (by rw [hlm]; exact ha1), _, _, rfl, _, rfl, _, rfl, p, _, b, b.toNat, rfl, rfl, upd_same, ixN_nat hb0 (by rw [List.length_set, hlm]; exact hb1), rfl, ?_⟩
    obtain ⟨R10, dls⟩ := seen (ls' := (ls.set a.toNat sb).set b.toNat sa) R9 sub1 (by rw [upd_same, List.map_set, List.map_set])
    refine kn _ _ ⟨_, _, _, _, _, rfl, R10.upS (by omega), dls, ?_, ?_⟩
    · rw [swap_wt hsa hsb]; omega
    · exact ascL_set (ascL_set hal (hal sb (List.mem_of_getElem? hsb))) (hal sa (List.mem_of_getElem? hsa))
  have hp6 : H6 p = some (.lst (ls.map L2.V.str)) := by rw [g6.x p List.mem_cons_self]; exact hp5
  refine r_if1 (b := decide (way = 3)) R6 (et_cmp (ev_op (ev_vi rfl) ev_int rv_eqI)) (fun q3 B7 H7 e7 g7 R7 => ?_) (fun q3 B7 H7 e7 g7 R7 => ?_)
  · -- a word otherwise
    have hp7 : H7 p = some (.lst (ls.map L2.V.str)) := by rw [g7.x p List.mem_cons_self]; exact hp6
    have hsal : sa.length + 1 ≤ wt ls := wt_mem (List.mem_of_getElem? hsa)
    refine ⟨_, rfl, _, rfl, .inl ⟨p, _, a, .str sa, rfl, rfl, SqL.of hp7, atI_str ha0 hsa, ⟨sa, rfl⟩, sa, " ", rfl, rfl, by decide +kernel, by omega, fun q hq => ?_⟩⟩
    obtain ⟨R8, x8, nq, nqS⟩ := R7.own (R7.w.new hq (.lst ((Txt.split sa " ").map L2.V.str))) (Fr.of hq) upd_same rfl
    have nqp : q ≠ p := fun z => nq (by rw [z]; exact List.mem_cons_self)
    have hp8 : upd H7 q (.lst ((Txt.split sa " ").map L2.V.str)) p = some (.lst (ls.map L2.V.str)) := by rw [upd_ne (fun z => nqp z.symm)]; exact hp7
    have hq8 : upd H7 q (.lst ((Txt.split sa " ").map L2.V.str)) q = some (.lst ((Txt.split sa " ").map L2.V.str)) := upd_same
    revert R8 hp8 hq8
    generalize upd H7 q (.lst ((Txt.split sa " ").map L2.V.str)) = H8
    intro R8 hp8 hq8
    obtain ⟨wl, ewl⟩ : ∃ wl, wl = Txt.split sa " " := ⟨_, rfl⟩
    rw [← ewl] at hq8
    have hwl : wt wl = sa.length + 1 := by rw [ewl]; exact split_wt sp_len sa
    have hwa : AscL wl := by rw [ewl]; exact ascL_split (hal sa (List.mem_of_getElem? hsa))
    have hwl1 : 1 ≤ wl.length := by rw [ewl]; exact List.length_pos_iff.mpr split_ne
    have hwll := len_wt wl
    have dj8 : Dj st t (q :: p :: F0) := ⟨fun z => (List.mem_cons.mp z).elim (fun z => nqS (by rw [← z]; exact List.mem_cons_self)) dj'.1, fun z => (List.mem_cons.mp z).elim (fun z => nqS (by rw [← z]; exact List.mem_cons_of_mem _ List.mem_cons_self)) dj'.2⟩
    have nq0 : q ∉ F0 := fun z => nq (List.mem_cons_of_mem _ z)
    have nqS' : ∀ m, q ∉ (DL.St st t m).S := fun m z => nqS z
    refine es_pick0 (σ := [some (.ref st), some (.str z), some (.ref p), some (.int way), some (.int a), some (.int b), some (.ref q), none]) (l := us13.map D.str) (th := .lst (us13.map D.str)) ne rfl (fun n' => EvF.ev (ef_lst (ea_cons ev_str (ea_cons ev_str (ea_cons ev_str (ea_cons ev_str (ea_cons ev_str (ea_cons ev_str (ea_cons ev_str (ea_cons ev_str (ea_cons ev_str (ea_cons ev_str (ea_cons ev_str (ea_cons ev_str (ea_cons ev_str ea_nil))))))))))))) (show (13 : Nat) ≤ sizeLine by decide))) rfl (by decide) (by decide) (n + 3) F0 H (q :: p :: F0) H8 _ (by omega) dj8 R8 fun v B9 H9 d pd e9 k9 R9 dv => ?_
    obtain ⟨u, rfl, hu10, hua⟩ := small_of (by decide +kernel) pd
    have evu : v = .str u := dv
    subst evu
    have hq9 : H9 q = some (.lst (wl.map L2.V.str)) := by rw [k9 q List.mem_cons_self]; exact hq8
    have hp9 : H9 p = some (.lst (ls.map L2.V.str)) := by rw [k9 p (by simp)]; exact hp8
    refine ⟨_, rfl, x_draw (m := ((wl.length : Nat) : Int)) R9 dj8 ne rfl (fun Q q => x_lenL rfl hq9 (by rw [List.length_map]; exact q)) (by omega) (by omega) (by omega) fun j B10 H10 hj0 hj1 e10 k10 R10 => ?_⟩
    have hq10 : H10 q = some (.lst (wl.map L2.V.str)) := by rw [k10 q List.mem_cons_self]; exact hq9
    have hp10 : H10 p = some (.lst (ls.map L2.V.str)) := by rw [k10 p (by simp)]; exact hp9
    refine ⟨q, _, j, j.toNat, rfl, rfl, hq10, ixN_nat hj0 (by rw [List.length_map]; exact hj1), ?_⟩
    obtain ⟨old, hold⟩ : ∃ s, wl[j.toNat]? = some s := ⟨_, List.getElem?_eq_getElem (by omega)⟩
    have hws := wt_set wl j.toNat u old hold
    have R11 := R10.put (p := q) (o := .lst ((wl.map L2.V.str).set j.toNat (.str u))) List.mem_cons_self (nqS' _) nq0 rfl
    have hq11 : upd H10 q (.lst ((wl.map L2.V.str).set j.toNat (.str u))) q = some (.lst ((wl.set j.toNat u).map L2.V.str)) := by rw [upd_same, List.map_set]
    have hp11 : upd H10 q (.lst ((wl.map L2.V.str).set j.toNat (.str u))) p = some (.lst (ls.map L2.V.str)) := by rw [upd_ne (fun z => nqp z.symm)]; exact hp10
    have hjl := join_wt sp_len (wl.set j.toNat u)
    have hsum : ((wl.set j.toNat u).map (·.length)).sum + (wl.set j.toNat u).length * (" " : Str).length ≤ 16777216 := by
      rw [sp_len, Nat.mul_one]
      show wt (wl.set j.toNat u) ≤ _
      omega
    refine ⟨⟨" ", rfl⟩, _, rfl, " ", q, wl.set j.toNat u, rfl, rfl, .inl (SqL.of hq11), hsum, _, rfl, _, rfl, p, _, a, a.toNat, rfl, rfl, hp11, ixN_nat ha0 (by rw [hlm]; exact ha1), ?_⟩
    have R12 := R11.put (p := p) (o := .lst ((ls.map L2.V.str).set a.toNat (.str (Txt.join " " (wl.set j.toNat u))))) (by simp) (nS' _) nF0 rfl
    obtain ⟨R13, dls⟩ := seen (ls' := ls.set a.toNat (Txt.join " " (wl.set j.toNat u))) R12 (fun b hb => by simp [hb]) (by rw [upd_same, List.map_set])
    refine kn _ _ ⟨_, _, _, _, _, rfl, R13.upS (by omega), dls, ?_, ?_⟩
    · have := wt_set ls a.toNat (Txt.join " " (wl.set j.toNat u)) sa hsa
      omega
    · refine ascL_set hal ?_
      rw [TL.join_eq]
      exact asc_join (asc_by (by decide +kernel)) _ (ascL_set hwa hua)
  have hp7 : H7 p = some (.lst (ls.map L2.V.str)) := by rw [g7.x p List.mem_cons_self]; exact hp6
  refine r_if1 (b := decide (way = 4)) R7 (et_cmp (ev_op (ev_vi rfl) ev_int rv_eqI)) (fun q4 B8 H8 e8 g8 R8 => ?_) (fun q4 B8 H8 e8 g8 R8 => ?_)
  · -- a sign more
    refine r_setS (es_draw0 (m := ((z.length : Nat) : Int) + 1) ne rfl (fun n' => ev_op (ev_cb (ea_cons (ev_vs (k := z) rfl) ea_nil) (rc_lenS (by omega))) ev_int (rv_I0 rfl)) (by omega) (by omega)) R8 dj' (by omega) fun v B9 H9 d ⟨j, ed, hj0, hj1⟩ e9 k9 R9 dv => ?_
    subst ed
    have evj : v = .int j := dv
    subst evj
    have c1 := cut_len (z := z) (lo := none) (hi := some j)
    have c2 := cut_len (z := z) (lo := some j) (hi := none)
    refine r_retS (c := (0 + 1) + 0) (es_op (P1 := fun d => ∃ y : Str, d = .str y ∧ y.length ≤ z.length + 10 ∧ Asc y) (P2 := fun d => d = .str (cutS z (some j) none)) (P := fun d => ∃ y : Str, d = .str y ∧ y.length ≤ 2 * z.length + 16 ∧ Asc y) (es_op (P1 := fun d => d = .str (cutS z none (some j))) (P2 := fun d => d ∈ us5.map D.str) (es_ev fun n' => ev_slS (ev_vs (k := z) rfl) eo_none (eo_some (ev_vi rfl)) (by omega)) (fun B' e => es_pick0 (th := .lst (us5.map D.str)) ne rfl (fun n' => EvF.ev (ef_lst (ea_cons ev_str (ea_cons ev_str (ea_cons ev_str (ea_cons ev_str (ea_cons ev_str ea_nil))))) (show (5 : Nat) ≤ sizeLine by decide))) rfl (by decide) (by decide)) ?_) (fun B' e => es_ev fun n' => ev_slS (ev_vs (k := z) rfl) (eo_some (ev_vi rfl)) eo_none (by omega)) ?_) R9 dj' (by omega) fun v H' d ⟨y, ed, hy, hya⟩ g dv => ?_
    · rintro x y rfl hy
      obtain ⟨u, rfl, hu10, hua⟩ := small_of (by decide +kernel) hy
      exact ⟨.str _, ⟨_, rfl, by rw [cat_len]; omega, asc_cat (asc_cut hz2) hua⟩, fun M => rv_addS (by omega)⟩
    · rintro x y ⟨u, rfl, hu10, hua⟩ rfl
      exact ⟨.str _, ⟨_, rfl, by rw [cat_len]; omega, asc_cat hua (asc_cut hz2)⟩, fun M => rv_addS (by omega)⟩
    · exact kf v H' d ⟨y, ed, hy, hya⟩ ⟨g.e, g.x, StI.up g.i (by show _ ≤ n + 10; omega)⟩ dv
  have hp8 : H8 p = some (.lst (ls.map L2.V.str)) := by rw [g8.x p List.mem_cons_self]; exact hp7
  refine r_if1 (b := decide (way = 5)) R8 (et_cmp (ev_op (ev_vi rfl) ev_int rv_eqI)) (fun q5 B9 H9 e9 g9 R9 => ?_) (fun q5 B9 H9 e9 g9 R9 => ?_)
  · -- the beginning
    refine ⟨_, rfl, x_draw (m := ((z.length : Nat) : Int) + 1) R9 dj' ne rfl (xi_op (f := fun i j => i + j) (fun Q q => ⟨_, rfl, z, rfl, by omega, q⟩) xi_c) (by omega) (by omega) (by omega) fun j B10 H10 hj0 hj1 e10 k10 R10 => ⟨j, rfl, z, rfl, by omega, ?_⟩⟩
    have c1 := cut_len (z := z) (lo := none) (hi := some j)
    exact fin (by omega) R10 (by omega) (asc_cut hz2)
  have hp9 : H9 p = some (.lst (ls.map L2.V.str)) := by rw [g9.x p List.mem_cons_self]; exact hp8
  refine r_if1 (b := decide (way = 6)) R9 (et_cmp (ev_op (ev_vi rfl) ev_int rv_eqI)) (fun q6 B10 H10 e10 g10 R10 => ?_) (fun q6 B10 H10 e10 g10 R10 => ?_)
  · -- more behind it
    refine r_retS (c := 0 + 1) (es_op (P1 := fun d => d = .str z) (P2 := fun d => d ∈ us3.map D.str) (P := fun d => ∃ y : Str, d = .str y ∧ y.length ≤ 2 * z.length + 16 ∧ Asc y) (es_ev fun n' => ev_vs rfl) (fun B' e => es_pick0 (th := .lst (us3.map D.str)) ne rfl (fun n' => EvF.ev (ef_lst (ea_cons ev_str (ea_cons ev_str (ea_cons ev_str ea_nil))) (show (3 : Nat) ≤ sizeLine by decide))) rfl (by decide) (by decide)) ?_) R10 dj' (by omega) fun v H' d ⟨y, ed, hy, hya⟩ g dv => ?_
    · rintro x y rfl hy
      obtain ⟨u, rfl, hu10, hua⟩ := small_of (by decide +kernel) hy
      exact ⟨.str _, ⟨_, rfl, by rw [cat_len]; omega, asc_cat hz2 hua⟩, fun M => rv_addS (by omega)⟩
    · exact kf v H' d ⟨y, ed, hy, hya⟩ ⟨g.e, g.x, StI.up g.i (by show _ ≤ n + 10; omega)⟩ dv
  · obtain ⟨R11, dls⟩ := seen R10 sub1 (by rw [g10.x p List.mem_cons_self]; exact hp9)
    exact kn _ _ ⟨ls, _, _, _, _, rfl, R11.upS (by omega), dls, by omega, hal⟩
  · rintro σ2 H2 ⟨ls', v2, v6, v7, B', rfl, R, dls, hwt', hal'⟩
    have := join_wt nl_len ls'
    refine r_ret R (ev_join (a := nl) (ys := ls') ev_str (ev_var (i := 2) rfl dls) rfl ?_) fun v H' g d => kf v H' _ ⟨_, rfl, by omega, ?_⟩ g d
    · rw [nl_len, Nat.mul_one]
      show wt ls' ≤ _
      omega
    · rw [TL.join_eq]
      exact asc_join (asc_by (by decide +kernel)) _ hal'
end
end Pg

/-! DLT: several except clauses, each with a name (the same for all). -/
namespace TA
open PySem PySem.Spec PyProof.Rows L2
abbrev Clause := Value × (Addr → Value → Option Addr → TS)
def unsetE (D : Ends) (i : Nat) : Ends := { nx := fun σ' H' => D.nx (σ'.set i none) H', rt := D.rt, bk := fun σ' H' => D.bk (σ'.set i none) H', ct := fun σ' H' => D.ct (σ'.set i none) H' }
def wMA (K : PySem.W.Frag) (Wout : WX) (m i : Nat) (D : Ends) : List Clause → WX
  | [] => Wout
  | q :: r => fun cls d σ H => ∃ b, PySem.W.exmOne K cls q.1 = some b ∧ (b = true → σ.length = m → ∀ a, H a = none → q.2 a cls d (unsetE D i) (σ.set i (some (.ref a))) H) ∧ (b = false → wMA K Wout m i D r cls d σ H)
inductive HdsA (X : Cx) (n : Str) : List ExceptHandler → List Clause → Prop
  | nil : HdsA X n [] []
  | cons {x : Str} {q : Clause} {b₀ : Stmt} {su : List Stmt} {p1 p2 : Pos} {hs : List ExceptHandler} {l : List Clause} (nm : Names X x q.1)
      (hsu : ∀ (a : Addr) (oe : Obj) (cls : Value) (d : Option Addr) (pn : List (Addr × Obj)), Zc cls d oe → (∃ vs, oe.data = .fields vs) → PSs (X.suite a ((a, oe) :: pn)) (b₀ :: su) (q.2 a cls d)) (r : HdsA X n hs l) :
      HdsA X n (.ExceptHandler (some (.Name x p1)) (some n) (b₀ :: su) p2 :: hs) (q :: l)
section
variable {X : Cx} {n : Str} {i : Nat} {body : List Stmt} {h₀ : ExceptHandler} {hds : List ExceptHandler} {l : List Clause} {pos : Pos} {tb : WX → TS} {Wout : WX}
theorem ps_try_manyAs (hs : X.stack = X.env :: X.outer) (hf : X.env.frame = some X.env.locals) (hN : X.N.Nodup) (hi : X.N[i]? = some n) (hln : X.env.kindOf n = some .local) (tk : Takes X Wout)
    (hb : ∀ (W : WX) (pn : List (Addr × Obj)) (xe : Value → Shared → Prop), Takes (X.tr pn xe) W → PassesOwn (model X.prog X.w) X.A X.env xe → PSs (X.tr pn xe) body (tb W))
    (hh : HdsA X n (h₀ :: hds) l) : PS X (.Try body (h₀ :: hds) [] [] pos) (fun D σ H => tb (wMA X.K Wout X.N.length i D l) D σ H) := ⟨fun pins s σ H D I h => by
  have ok := I.ok
  have frA : X.A.frames = some (X.env :: X.outer) := ok.frames.trans (congrArg some hs)
  have locn : Loc X.env.scope n := Or.inl hln
  have bodyR := (hb (wMA X.K Wout X.N.length i D l) (X.pn ++ pins) (fun e s1 => wpAny (model X.prog X.w) X.A (noteFrame e X.env) (fun _ s2 => wpAny (model X.prog X.w) X.A (setFlight e none) (fun _ s3 =>
      wpAny (model X.prog X.w) X.A (handleBy e X.env (h₀ :: hds)) (SP X pins D) X.xe s3) X.xe s2) X.xe s1) (fun u s' xx => by
    obtain ⟨a, B, sI, pins', σ', H', cls, d, rfl, Jt, nb, up, sky, na, os, ag, w⟩ := xx
    have J : Inv X pins σ' H' sI := Jt.ofTry ok
    have sky2 : Sky B (X.env :: X.outer) a (Zc cls d) X.env.locals s'.heap := hs ▸ sky
    refine Sky.land Zc.steady frA hf sky2 fun hp3 fl up3 => ?_
    have J3 : Inv X pins σ' H' { s' with heap := hp3 } := J.landed nb fl.1 (up.trans up3) os ag
    obtain ⟨oe, vs0, eo, ez, ed⟩ := fl.there
    have out : a ∉ frs (X.env :: X.outer) := fun hm => by
      obtain ⟨_, o2, e2, hnf⟩ := fl.2.2.1.mem hm
      rw [eo] at e2
      cases e2
      exact hnf _ ed
    have nL : a ≠ X.env.locals := fun z => out (List.mem_filterMap.mpr ⟨X.env, List.mem_cons_self, hf.trans (congrArg some z.symm)⟩)
    have nF : a ∉ X.fs := fun hm => by
      obtain ⟨e, he, q⟩ := List.mem_filterMap.mp hm
      exact out (List.mem_filterMap.mpr ⟨e, List.mem_cons_of_mem _ he, q⟩)
    have S3 := J3.suite eo ed na nL nF
    have all : ∀ {hd2 : List ExceptHandler} {l2 : List Clause}, HdsA X n hd2 l2 → wMA X.K Wout X.N.length i D l2 cls d σ' H' →
        wpAny (model X.prog X.w) X.A (handleBy (.ref a) X.env hd2) (SP X pins D) X.xe { s' with heap := hp3 } := by
      intro hd2 l2 hk
      induction hk with
      | nil =>
        intro w
        refine wpAny_handleBy_nil ?_
        obtain ⟨_, _, _, oe2, vs2, T, oT, ts2, he2, _, hd2, h12, _⟩ := id fl
        unfold PySem.passOn
        refine wpAny_bind (wpAny_field he2 hd2 h12 ?_)
        rw [if_neg (by simp : ¬ ((Value.ref T == Value.none) = true))]
        have goOn : wpAny (model X.prog X.w) X.A (setFlight (.ref a) X.env.frame) (fun _ s4 => wpAny (model X.prog X.w) X.A (throw (.ref a) : Sem Flow) (SP X pins D) X.xe s4) X.xe { s' with heap := hp3 } := by
          rw [hf]
          exact HandSPX.setFlight_upZ fl fun hp4 q4 up4 => wpAny_throw (tk _ _ ⟨a, B, sI, pins, σ', H', cls, d, rfl, J, nb, (up.trans up3).trans up4, .inr (.inr (hs ▸ q4)), na, os, ag, w⟩)
        first | exact wpAny_bind (wpAny_pure (wpAny_bind goOn)) | exact wpAny_bind goOn
      | @cons x q b₀ su p1 p2 hs3 l3 nm hsu r ih =>
        intro w
        obtain ⟨b, eb, wy, wn⟩ := w
        refine wpAny_handleBy_cons (codeAny_handlers_test ?_) (by intro z; cases z)
        have LT : PySem.W.Looks (model X.prog X.w) hp3 (typeOf (.ref a)) cls := fun A Q E s k q => wpAny_typeOf_ref (k _ _ eo) (by rw [ez.1]; exact q)
        have LM := PySem.W.exm_one (M := model X.prog X.w) J3.kIn LT eb
        have named : ∀ {Q E : Value → Shared → Prop}, Q q.1 { s' with heap := hp3 } → wpAny (model X.prog X.w) (X.A.mark (some (.ref a))) (eval (.Name x p1) X.env) Q E { s' with heap := hp3 } := fun {Q E} z => by
          obtain ⟨gx, gd, hm | ⟨hm, hv, hn⟩⟩ := nm
          · exact ld_glob (X := X.suite a ((a, oe) :: (X.pn ++ pins))) S3 gx hm z gd
          · exact ld_blt (X := X.suite a ((a, oe) :: (X.pn ++ pins))) S3 gx hm hv z hn gd
        refine named (LM.here ?_)
        cases b with
        | false => exact ih (wn rfl)
        | true =>
          refine codeAny_handlers_suite_as (HandSPX.lands_againZ fl fun hp4 fl4 up4 => ?_)
          have J4 : Inv X pins σ' H' { s' with heap := hp4 } := J.landed nb fl4.1 ((up.trans up3).trans up4) os ag
          obtain ⟨oe4, vs4, eo4, ez4, ed4⟩ := fl4.there
          refine store_ok (X := X.suite a ((a, oe4) :: (X.pn ++ pins))) (v := .ref a) (J4.suite eo4 ed4 na nL nF) hN hi locn rfl (fun s5 S5 => ?_) (.inr hln)
          have gone : ∀ {σ6 : L2.St} {H6 : Hp} {s6 : Shared} {Q : Shared → Prop}, Inv (X.suite a ((a, oe4) :: (X.pn ++ pins))) [] σ6 H6 s6 → (∀ s7, Inv X pins (σ6.set i none) H6 s7 → Q s7) →
              wpAny (model X.prog X.w) X.A (do bindName X.env n .none; unbindBehindTheSuite X.env n p2) (fun _ s7 => Q s7) X.xe s6 := fun {σ6 H6 s6 Q} S6 hq => gone_ok (S6.unsuite ok) hN hi hln hq
          refine wpAny_mono ((hsu a oe4 cls d (X.pn ++ pins) ez4 ⟨_, ed4⟩).run [] s5 _ H' _ S5 (wy rfl J.len a na)) (fun fl6 s6 hsp => ?_) (fun _ _ z => z.elim)
          cases fl6 with
          | ret u6 =>
            obtain ⟨v6, σ6, H6, S6, r6, q6⟩ := hsp
            exact gone S6 fun s7 J7 => ⟨_, _, _, J7, r6, q6⟩
          | next => exact hsp.elim fun σ6 ⟨H6, S6, q6⟩ => gone S6 fun s7 J7 => ⟨_, _, J7, q6⟩
          | brk => exact hsp.elim fun σ6 ⟨H6, S6, q6⟩ => gone S6 fun s7 J7 => ⟨_, _, J7, q6⟩
          | cont => exact hsp.elim fun σ6 ⟨H6, S6, q6⟩ => gone S6 fun s7 J7 => ⟨_, _, J7, q6⟩
    exact all hh w) PassesOwn.looking).run [] s σ H D (I.toTry _) h
  refine wpAny_Try_except (wpAny_mono bodyR (fun fl s1 hsp => ?_) (fun e s1 he => he))
  cases fl with
  | next => exact hsp.elim fun σ' ⟨H', J', q⟩ => wpAny_execs_nil ⟨σ', H', J'.ofTry ok, q⟩
  | brk => exact hsp.elim fun σ' ⟨H', J', q⟩ => ⟨σ', H', J'.ofTry ok, q⟩
  | cont => exact hsp.elim fun σ' ⟨H', J', q⟩ => ⟨σ', H', J'.ofTry ok, q⟩
  | ret u => exact hsp.elim fun v ⟨σ', H', J', r, q⟩ => ⟨v, σ', H', J'.ofTry ok, r, q⟩⟩
end
end TA

namespace Pg
open PySem PySem.Spec PyProof.Rows L2 DL RX RZ LiI LamX TA
structure ExcF (K : PySem.W.Frag) (C : Addr) (fl : Str) : Prop where
  T : XfC K C
  no : PySem.W.findIn K (.ref C) fl = some none
structure Exc2 (K : PySem.W.Frag) (C1 C2 : Addr) (f1 f2 : Str) : Prop where
  e1 : ExcF K C1 f1
  e2 : ExcF K C2 f2
  m11 : PySem.W.exmOne K (.ref C1) (.ref C1) = some true
  m21 : PySem.W.exmOne K (.ref C2) (.ref C1) = some false
  m22 : PySem.W.exmOne K (.ref C2) (.ref C2) = some true
/-- what is done with what is caught -/
def metX (C1 C2 : Addr) (f1 f2 : Str) (Q : VK) : XK := fun cls d H' => (cls = .ref C1 ∧ ∃ dd y, d = some dd ∧ H' dd = some (.xd [(f1, y)]) ∧ ∀ p, H' p = none → Q (.ref p) (upd H' p (.tup [.str f1, y]))) ∨
  (cls = .ref C2 ∧ ∃ dd y, d = some dd ∧ H' dd = some (.xd [(f2, y)]) ∧ ∀ p, H' p = none → Q (.ref p) (upd H' p (.tup [.str f2, y])))
def TTmet (CT CR : Addr) : (XK → Hp → VK → Prop) → Hp → VK → Prop := fun tl H Q => tl (metX CT CR "line" "reading" Q) H fun v H1 => ([L2.V.str "told", v]).length ≤ sizeLine ∧ ∀ p, H1 p = none → Q (.ref p) (upd H1 p (.tup [.str "told", v]))
def TTref (CB CP : Addr) : (XK → Hp → VK → Prop) → Hp → VK → Prop := fun tl H Q => tl (metX CB CP "village" "purse" Q) H fun _ H1 => Q .non H1
section
variable {K : PySem.W.Frag} {C1 C2 : Addr} {f1 f2 : Str} {Q : VK} {D : Ends} {σ : L2.St} {H : Hp}
/-- the reading of «return (word, e.field)» in a clause -/
def rdX (C : Addr) (w f : Str) (a : Addr) (cls : Value) (d : Option Addr) : TS := tRet (tTup (tCons (tC (.str w)) (tCons (tXf a cls d C f (tVar 1)) tNil)))
theorem rdX_of {C a dd : Addr} {f : Str} {y : L2.V} (hl : σ.length = 2) (hdd : H dd = some (.xd [(f, y)])) (hf : (f == f) = true) (k : ∀ p, H p = none → D.rt (.ref p) (upd H p (.tup [.str f, y]))) : rdX C f f a (.ref C) (some dd) (unsetE D 1) (σ.set 1 (some (.ref a))) H := by
  match σ, hl with
  | [v0, v1], _ =>
    refine ⟨_, rfl, rfl, rfl, dd, [(f, y)], y, rfl, hdd, ?_, (show 2 ≤ sizeLine by decide), fun p hp => k p hp⟩
    simp only [List.lookup_cons, hf]
theorem met_all {Wout : WX} (T : Exc2 K C1 C2 f1 f2) (h1 : (f1 == f1) = true) (h2 : (f2 == f2) = true) (hQ : ∀ v H', Q v H' → D.rt v H') : ∀ cls d σ' H', metX C1 C2 f1 f2 Q cls d H' → wMA K Wout 2 1 D [(.ref C1, rdX C1 f1 f1), (.ref C2, rdX C2 f2 f2)] cls d σ' H' := by
  rintro cls d σ' H' (⟨rfl, dd, y, rfl, hdd, k⟩ | ⟨rfl, dd, y, rfl, hdd, k⟩)
  · exact ⟨true, T.m11, fun _ hl a _ => rdX_of hl hdd h1 fun p hp => hQ _ _ (k p hp), (fun z => by cases z)⟩
  · exact ⟨false, T.m21, (fun z => by cases z), fun _ => ⟨true, T.m22, fun _ hl a _ => rdX_of hl hdd h2 fun p hp => hQ _ _ (k p hp), (fun z => by cases z)⟩⟩
end
abbrev N_met : List Str := ["ask", "e"]
theorem met_gives {X : Cx} {g CT CR : Addr} {cdg : Value} {q : Str} (mT : X.mg "BadText" = some (.ref CT)) (mR : X.mg "BadReading" = some (.ref CR)) (T : Exc2 X.K CT CR "line" "reading") :
    GivesTo X N_met "_law_met" (defScope s_law_met) g cdg (defBody s_law_met) "ask" q (TTmet CT CR) := by
  intro f c' s H Q tl act hc h
  refine ⟨_, pss_one (ps_try_manyAs (X := (cxOf C8.CX0 X.prog X.w X.K X.mg X.base N_met "_law_met" (defScope s_law_met) g cdg X.A X.stack s H C8.E0).nox) (i := 1) (n := "e")
      (tb := fun W D σ H => ∃ Ech : XK, (∀ cls d σ' H', Ech cls d H' → W cls d σ' H') ∧ σ[0]? = some (some (.ref f)) ∧ H c' = some (CodeO c' q) ∧ tl Ech H (fun v H1 => ([L2.V.str "told", v]).length ≤ sizeLine ∧ ∀ p, H1 p = none → D.rt (.ref p) (upd H1 p (.tup [.str "told", v]))))
      (l := [(.ref CT, rdX CT "line" "line"), (.ref CR, rdX CR "reading" "reading")]) rfl rfl sc_law_met.nd rfl rfl L2.takes0 (fun W pn xe tk _ => ?_)
      (.cons ⟨by rfl, by decide +kernel, .inl mT⟩ (fun a oe cls d pn hz hfd => by show PSs _ _ (rdX CT "line" "line" a cls d); unfold rdX; exact pss_one (ps_ret (pe_tup (pa_cons pe_str (pa_cons (pe_xf T.e1.T T.e1.no hz hfd (pv 1)) pa_nil))))) (.cons ⟨by rfl, by decide +kernel, .inl mR⟩ (fun a oe cls d pn hz hfd => by show PSs _ _ (rdX CR "reading" "reading" a cls d); unfold rdX; exact pss_one (ps_ret (pe_tup (pa_cons pe_str (pa_cons (pe_xf T.e2.T T.e2.no hz hfd (pv 1)) pa_nil))))) .nil))), ?_⟩
  · refine ⟨fun pins s' σ H' D I h' => ?_⟩
    obtain ⟨Ech, hW, h1, h2, h3⟩ := h'
    exact PSs.run (pss_one (ps_ret (pe_tup (pa_cons pe_str (pa_cons (act W pn xe Ech _ _ tk hW) pa_nil))))) pins s' σ H' D I ⟨h1, h2, h3⟩
  · exact ⟨metX CT CR "line" "reading" Q, met_all T (by decide +kernel) (by decide +kernel) (fun _ _ h => h), rfl, hc, h⟩
theorem ref_gives {X : Cx} {g CB CP : Addr} {cdg : Value} {q : Str} (mB : X.mg "BadVillage" = some (.ref CB)) (mP : X.mg "BadPurse" = some (.ref CP)) (T : Exc2 X.K CB CP "village" "purse") :
    GivesTo X N_met "_law_refusal" (defScope s_law_refusal) g cdg (defBody s_law_refusal) "ask" q (TTref CB CP) := by
  intro f c' s H Q tl act hc h
  refine ⟨_, pss_one (ps_try_manyAs (X := (cxOf C8.CX0 X.prog X.w X.K X.mg X.base N_met "_law_refusal" (defScope s_law_refusal) g cdg X.A X.stack s H C8.E0).nox) (i := 1) (n := "e")
      (tb := fun W D σ H => ∃ Ech : XK, (∀ cls d σ' H', Ech cls d H' → W cls d σ' H') ∧ σ[0]? = some (some (.ref f)) ∧ H c' = some (CodeO c' q) ∧ tl Ech H (fun _ H1 => D.rt .non H1))
      (l := [(.ref CB, rdX CB "village" "village"), (.ref CP, rdX CP "purse" "purse")]) rfl rfl sc_law_refusal.nd rfl rfl L2.takes0 (fun W pn xe tk _ => ?_)
      (.cons ⟨by rfl, by decide +kernel, .inl mB⟩ (fun a oe cls d pn hz hfd => by show PSs _ _ (rdX CB "village" "village" a cls d); unfold rdX; exact pss_one (ps_ret (pe_tup (pa_cons pe_str (pa_cons (pe_xf T.e1.T T.e1.no hz hfd (pv 1)) pa_nil))))) (.cons ⟨by rfl, by decide +kernel, .inl mP⟩ (fun a oe cls d pn hz hfd => by show PSs _ _ (rdX CP "purse" "purse" a cls d); unfold rdX; exact pss_one (ps_ret (pe_tup (pa_cons pe_str (pa_cons (pe_xf T.e2.T T.e2.no hz hfd (pv 1)) pa_nil))))) .nil))), ?_⟩
  · refine ⟨fun pins s' σ H' D I h' => ?_⟩
    obtain ⟨Ech, hW, h1, h2, h3⟩ := h'
    exact PSs.run (pss_cons (ps_expr (act W pn xe Ech _ _ tk hW)) (pss_one (ps_ret pe_non))) pins s' σ H' D I ⟨h1, h2, h3⟩
  · exact ⟨metX CB CP "village" "purse" Q, met_all T (by decide +kernel) (by decide +kernel) (fun _ _ h => h), rfl, hc, h⟩
end Pg

/-! DLU: lambdas made on the way: the tables of code objects grow. -/
namespace DL
open PySem PySem.Spec PyProof.Rows L2 LamX
def isTb : HO → Bool
  | .tbl _ => true
  | _ => false
def isLD : HO → Bool
  | .lst _ => true
  | .dK _ => true
  | _ => false
theorem isTb_no {o : HO} (h : isTb o = false) : ∀ ps, o ≠ .tbl ps := fun ps z => by rw [z] at h; cases h
theorem isTb_of {o : HO} (h : ∀ ps, o ≠ .tbl ps) : isTb o = false := by
  cases o <;> first | rfl | exact absurd rfl (h _)
theorem isLD_tb {o : HO} (h : isLD o = true) : isTb o = false := by cases o <;> first | rfl | cases h
theorem codeO_tb {c : Addr} {q : Str} : isTb (CodeO c q) = false := rfl
theorem codeO_ld {c : Addr} {q : Str} : isLD (CodeO c q) = false := rfl
/-- without the tables -/
def nt (B : Hp) : Hp := fun b => match B b with
  | some o => if isTb o = true then none else some o
  | none => none
theorem nt_some {B : Hp} {b : Addr} {o : HO} : nt B b = some o ↔ B b = some o ∧ isTb o = false := by
  unfold nt
  cases h : B b with
  | none => exact ⟨fun z => (by cases z), fun z => (by cases z.1)⟩
  | some u =>
    by_cases z : isTb u = true
    · simp only [if_pos z]
      exact ⟨fun q => (by cases q), fun q => (by rw [Option.some.inj q.1, q.2] at z; cases z)⟩
    · simp only [if_neg z]
      exact ⟨fun q => ⟨q, (by rw [← Option.some.inj q]; simpa using z)⟩, fun q => q.1⟩
theorem nt_ex {B : Hp} : Ex (nt B) B := fun b o h _ => (nt_some.mp h).1
theorem nt_le {B : Hp} : Le B (nt B) := by
  refine ⟨fun a es h => ?_, fun a u n h => nt_some.mpr ⟨h, ?_⟩⟩
  · rcases h with h | ⟨o, h⟩
    · exact .inl (nt_some.mpr ⟨h, rfl⟩)
    · exact .inr ⟨o, nt_some.mpr ⟨h, rfl⟩⟩
  · cases u <;> first | rfl | cases n
def NB (B : Hp) : Prop := ∀ b o, B b = some o → isTb o = false
theorem nb_nt {B : Hp} : NB (nt B) := fun b o h => (nt_some.mp h).2
theorem ex_nt {B C : Hp} (h : NB B) (e : Ex B C) : Ex B (nt C) := fun b o q n => nt_some.mpr ⟨e b o q n, h b o q⟩
section
variable {s t : Addr} {n m : Nat} {T : List (Addr × Str)} {F0 F : List Addr} {H0 H H1 H' B B' Bb : Hp} {p : Addr} {o : HO} {d : D} {σ : L2.St} {M : Md} {tl : XK → TE} {tr : TA} {De : Ends} {tz tu : TS} {g : TG} {wi : TI} {PI : List D → Prop} {c : Nat}
/-- the tables T stand hidden, their code objects are known; what else is hidden are own lists, own dicts -/
structure Lw (T : List (Addr × Str)) (F : List Addr) (B H : Hp) : Prop where
  k : ∀ p ∈ T, ∃ ps : Array Value, H p.1 = some (.tbl ps) ∧ TriplesOk ps.toList ∧ ∀ (pos : Pos) (cv : Value), codeAmong pos ps.toList = some cv → ∃ c, cv = .ref c ∧ B c = some (CodeO c p.2)
  tf : ∀ p ∈ T, p.1 ∈ F
  lf : ∀ b ∈ F, (∃ p ∈ T, p.1 = b) ∨ ∃ o, H b = some o ∧ isLD o = true
theorem Lw.step (L : Lw T F B H) (e : Ex B B') (x : ∀ b ∈ F, H' b = H b) : Lw T F B' H' := by
  refine ⟨fun p hp => ?_, L.tf, fun b hb => ?_⟩
  · obtain ⟨ps, h1, h2, h3⟩ := L.k p hp
    exact ⟨ps, by rw [x _ (L.tf p hp)]; exact h1, h2, fun pos cv hc => by
      obtain ⟨c, e1, e2⟩ := h3 pos cv hc
      exact ⟨c, e1, e c _ e2 rfl⟩⟩
  · rcases L.lf b hb with h | ⟨o, h1, h2⟩
    · exact .inl h
    · exact .inr ⟨o, by rw [x b hb]; exact h1, h2⟩
theorem Lw.nt (L : Lw T F B H) : Lw T F (nt B) H := ⟨fun p hp => by
  obtain ⟨ps, h1, h2, h3⟩ := L.k p hp
  exact ⟨ps, h1, h2, fun pos cv hc => by
    obtain ⟨c, e1, e2⟩ := h3 pos cv hc
    exact ⟨c, e1, nt_some.mpr ⟨e2, rfl⟩⟩⟩, L.tf, L.lf⟩
theorem Lw.own (L : Lw T F B H) (h : H p = some o) (l : isLD o = true) : Lw T (p :: F) B H := ⟨L.k, fun q hq => List.mem_cons_of_mem _ (L.tf q hq), fun b hb => by
  rcases List.mem_cons.mp hb with z | z
  · exact .inr ⟨o, by rw [z]; exact h, l⟩
  · exact L.lf b z⟩
theorem Lw.put (L : Lw T F B H) (np : ∀ q ∈ T, q.1 ≠ p) (l : isLD o = true) : Lw T F B (upd H p o) := ⟨fun q hq => by
  obtain ⟨ps, h1, h2, h3⟩ := L.k q hq
  exact ⟨ps, by rw [upd_ne (np q hq)]; exact h1, h2, h3⟩, L.tf, fun b hb => by
  rcases L.lf b hb with h | ⟨u, h1, h2⟩
  · exact .inl h
  · by_cases z : b = p
    · exact .inr ⟨o, by rw [z, upd_same], l⟩
    · exact .inr ⟨u, by rw [upd_ne z]; exact h1, h2⟩⟩
theorem Lw.drop (L : Lw T (p :: F) B H) (np : ∀ q ∈ T, q.1 ≠ p) : Lw T F B H := ⟨L.k, fun q hq => (List.mem_cons.mp (L.tf q hq)).resolve_left (np q hq), fun b hb => L.lf b (List.mem_cons_of_mem _ hb)⟩
theorem Lw.up (L : Lw T F B H) (e : Ex B B') : Lw T F B' H := L.step e fun _ _ => rfl
theorem Lw.tabs (L : Lw T F B H) (W : Wd M F B H) : Tabs T H := fun p hp => by
  obtain ⟨ps, h1, h2, h3⟩ := L.k p hp
  exact ⟨ps, h1, h2, fun pos cv hc => by
    obtain ⟨c, e1, e2⟩ := h3 pos cv hc
    exact ⟨c, e1, (hd_some.mp (W.e c _ e2 rfl)).2⟩⟩
theorem Lw.nT (L : Lw T F B H) (W : Wd M F B H) (f : Fr H p) : ∀ q ∈ T, q.1 ≠ p := fun q hq z => by
  obtain ⟨ps, h1, _⟩ := L.k q hq
  rw [z] at h1
  exact f _ h1 rfl
/-- .. behind the making of a lambda -/
theorem lamK (R : Rn (St s t n) F0 H0 F B H) (L : Lw T F B H) (n0 : NB (Hd (St s t n) F0 H0)) (h0 : ∀ p ∈ T, p.1 ∉ F0) : Tabs T H ∧ ∀ H1, ExtN H H1 → Tabs T H1 →
    ∃ B1, Rn (St s t n) F0 H0 F B1 H1 ∧ Lw T F B1 H1 ∧ Le B B1 ∧ (∀ Bb, NB Bb → Ex Bb B → Ex Bb B1) ∧ ∀ b ∈ F, (∀ p ∈ T, p.1 ≠ b) → H1 b = H b := by
  refine ⟨L.tabs R.w, fun H1 e T1 => ?_⟩
  obtain ⟨cells, a, b0, c0, hs, ht, rest⟩ := (show StI s t n H from R.w.i)
  have hs1 : H1 s = some (.lst [.ref t, .int a, .int (b0 : Nat), .int c0]) := e s _ hs (fun ps z => by cases z)
  have ht1 : H1 t = some (.lst (cells.map V.int)) := e t _ ht (fun ps z => by cases z)
  have own : ∀ b ∈ F, (∀ p ∈ T, p.1 ≠ b) → H1 b = H b := fun b hb hn => by
    rcases L.lf b hb with ⟨p, hp, z⟩ | ⟨o, h1, h2⟩
    · exact absurd z (hn p hp)
    · rw [h1]; exact e b o h1 (isTb_no (isLD_tb h2))
  have vis : ∀ b o, Hd (St s t n) F H b = some o → isTb o = false → nt (Hd (St s t n) F H1) b = some o := fun b o h nb => by
    obtain ⟨q, h⟩ := hd_some.mp h
    exact nt_some.mpr ⟨hd_some.mpr ⟨q, e b o h (isTb_no nb)⟩, nb⟩
  have lf1 : ∀ b ∈ F, (∃ p ∈ T, p.1 = b) ∨ ∃ o, H1 b = some o ∧ isLD o = true := fun b hb => by
    rcases L.lf b hb with h | ⟨o, h1, h2⟩
    · exact .inl h
    · exact .inr ⟨o, e b o h1 (isTb_no (isLD_tb h2)), h2⟩
  have le1 : Le B (nt (Hd (St s t n) F H1)) := by
    refine ⟨fun a es h => ?_, fun a u n h => vis a u (R.w.e a u h rfl) (by cases u <;> first | rfl | cases n)⟩
    rcases h with h | ⟨o, h⟩
    · exact .inl (vis a _ (R.w.e a _ h rfl) rfl)
    · exact .inr ⟨o, vis a _ (R.w.e a _ h rfl) rfl⟩
  refine ⟨nt (Hd (St s t n) F H1), ⟨⟨nt_ex, ⟨cells, a, b0, c0, hs1, ht1, rest⟩, fun b hb => ?_⟩, fun b o h nn => vis b o (R.w.e b o (R.e0 b o h nn) nn) (n0 b o h), R.s, fun b hb => ?_⟩, ⟨fun p hp => ?_, L.tf, lf1⟩, le1, fun Bb nb eb b o h nn => vis b o (R.w.e b o (eb b o h nn) nn) (nb b o h), own⟩
  · rcases lf1 b hb with ⟨p, hp, z⟩ | ⟨o, h1, _⟩
    · obtain ⟨ps, h1, _⟩ := T1 p hp
      exact ⟨_, by rw [← z]; exact h1, rfl⟩
    · exact ⟨o, h1, rfl⟩
  · rw [own b (R.s b hb) (fun p hp z => h0 p hp (by rw [z]; exact hb)), R.x b hb]
  · obtain ⟨ps, h1, h2, h3⟩ := T1 p hp
    refine ⟨ps, h1, h2, fun pos cv hc => ?_⟩
    obtain ⟨c, e1, e2⟩ := h3 pos cv hc
    refine ⟨c, e1, nt_some.mpr ⟨hd_some.mpr ⟨⟨fun z => ?_, fun z => ?_⟩, e2⟩, rfl⟩⟩
    · rcases List.mem_cons.mp z with z | z
      · rw [z, hs1] at e2; cases e2
      · rw [List.mem_singleton] at z; rw [z, ht1] at e2; cases e2
    · rcases lf1 c z with ⟨p', hp', z'⟩ | ⟨o, h1', h2'⟩
      · obtain ⟨ps', h1', _⟩ := T1 p' hp'
        rw [z', e2] at h1'
        cases h1'
      · rw [e2] at h1'
        cases h1'
        cases h2'
theorem Rn.nt (R : Rn M F0 H0 F B H) (n0 : NB (Hd M F0 H0)) : Rn M F0 H0 F (nt B) H := ⟨R.w.up nt_ex, ex_nt n0 R.e0, R.s, R.x⟩
/-- a call that raises -/
def Rais (M : Md) (tl : XK → TE) (σ : L2.St) (B : Hp) (C : Addr) (fl : Str) (d : D) : Prop := ∀ (F0 : List Addr) (H0 : Hp) (F : List Addr) (H : Hp) (E : XK) (Q : VK), Rn M F0 H0 F B H →
  (∀ dx y B' H', Ex B B' → Go M F H H' → Rn M F0 H0 F B' H' → H' dx = some (.xd [(fl, y)]) → Dt B' d y → E (.ref C) (some dx) H') → tl E σ H Q
theorem rais_callQR {α : Type} {inp : α → List D} {pre : α → Prop} {f : α → Res} {C : Addr} {fl : Str} (a : α) (h : EvA M tr σ B (inp a)) (p : pre a) (e : f a = .er C fl d) : Rais M (fun E => tCall (SpQR inp pre f) [] E tr) σ B C fl d := fun F0 H0 F H E Q R k =>
  h F H _ R.w fun vs H1 g1 hv => by
    have W1 := R.w.go g1
    refine ⟨M.S ++ F, a, app_tr W1, by rw [hd_app, List.append_nil]; exact hv, p, fun r er => ?_, fun C' fl' r er dx y H' g' hx hy => ?_⟩
    · rw [e] at er; cases er
    · rw [e] at er; cases er
      have g2 := g1.trans (go_app W1 g')
      rw [hd_app] at hy
      exact k dx y _ H' (R.ext g2) g2 (R.step g2) hx hy
/-- a loop whose base knows no table -/
theorem r_forN (hi : ∀ (Rr : It → Hp → Prop), (∀ J ys B' H', PI ys → Ex B B' → (∀ b ∈ F, H' b = H b) → Rn (St s t (n + c)) F0 H0 F B' H' → WkD M0 (DL.nt B') J ys → Rr J H') → wi σ H Rr) (n0 : ∀ m, NB (Hd (St s t m) F0 H0)) (nb : NB B) (L : Lw T F B H)
    (Iv : List D → Nat → L2.St → Hp → Hp → Prop) (hR : ∀ ys i σ B H, Iv ys i σ B H → ∃ n, Rn (St s t n) F0 H0 F B H)
    (h0 : ∀ ys B' H', PI ys → Ex B B' → NB B' → (∀ b ∈ F, H' b = H b) → Rn (St s t (n + c)) F0 H0 F B' H' → Lw T F B' H' → Iv ys 0 σ B' H')
    (hs : ∀ ys i d x σ' Bb B1 H1 B2 H2, PI ys → Ex B Bb → NB Bb → Ex Bb B1 → ys[i]? = some d → Iv ys i σ' B1 H1 → Ex B1 B2 → (∀ b ∈ F, H2 b = H1 b) → (∀ n, Rn (St s t n) F0 H0 F B1 H1 → Rn (St s t n) F0 H0 F B2 H2) → Dt B2 d x →
      g x σ' H2 fun σ2 H3 => tu { De with nx := Lp (Iv ys) Bb (i + 1), ct := Lp (Iv ys) Bb (i + 1), bk := tz De } σ2 H3)
    (hd : ∀ ys σ' B' H', PI ys → Ex B B' → Iv ys ys.length σ' B' H' → tz De σ' H') : tSeq (tFor wi g tu) tz De σ H :=
  hi _ fun J ys B1 H1 pi e1 k1 R1 wk => by
    obtain ⟨G, Y, w, hG, hY⟩ := wk.ex
    have e1' : Ex B (DL.nt B1) := ex_nt nb e1
    refine for_it (D := { De with nx := tz De }) w (Lp (Iv ys) (DL.nt B1)) ⟨_, Ex.refl _, h0 ys _ H1 pi e1' nb_nt k1 (R1.nt (n0 _)) ((L.step e1 k1).nt)⟩ ?_ ?_ ?_
    · rintro i σ' H' _ ⟨B', e, q⟩
      obtain ⟨n', R'⟩ := hR _ _ _ _ _ q
      exact hG _ H' ⟨e.trans (wdS R'.w).e, True.intro, (wdS R'.w).f⟩
    · rintro i x σ' H2 H3 hlt ⟨B', e, q⟩ y
      obtain ⟨n', R'⟩ := hR _ _ _ _ _ q
      have W' : Wd M0 ((St s t n').S ++ F) (DL.nt B1) H2 := ⟨e.trans (wdS R'.w).e, True.intro, (wdS R'.w).f⟩
      obtain ⟨g3, d, hd', dx⟩ := hY _ i H2 x H3 hlt W' y
      obtain ⟨g3', dx'⟩ := goT (J := J) (ys := ys) (Y := Y) (i := i) (H1 := H1) R' g3 dx
      exact hs ys i d x σ' _ B' H2 _ H3 pi e1' nb_nt e hd' q (R'.ext g3') (fun b hb => g3'.x b hb) (fun n2 R2 => R2.step (go_app R2.w g3)) dx'
    · rintro σ' H' ⟨B', e, q⟩
      exact hd ys σ' B' H' pi (e1'.trans e) q
end
end DL

namespace Pg
open PySem PySem.Spec PyProof.Rows L2 DL RX RZ LiI LamX TA
/-- a def whose code object is told -/
structure FunC (K : PySem.W.Frag) (x qual : Str) (st : Stmt) (f : Addr) (fd : FuncData) (c : Addr) : Prop where
  ex : ∃ (oc : Value) (od : Option Addr) (kV doc pm : Value) (an : Option Addr) (ct : Value) (osl : Array (Option Value)),
    fd = PySem.W.fnOf x qual (defArgs st) (defBody st) (defScope st) .none kV doc pm an (.ref c) ct ∧ K.lookup f = some ⟨oc, od, .func fd, osl⟩ ∧ PySem.W.codeIn K (.ref c) qual = true
  kp : PySem.W.keepIn K (.ref f) = true
theorem FunC.ok {P : Program} {w : World} {K : PySem.W.Frag} {mg : Str → Option Value} {base : Heap} {x qual : Str} {st : Stmt} {f c : Addr} {fd : FuncData} {N ps : List Str} {k : Nat} {sp : Sp} (F : FunC K x qual st f fd c) (S : FnScope N ps (defScope st)) (len : ∀ vs H Q E, sp vs H Q E → vs.length = ps.length)
    (body : ∀ (A : Around) (outer : List Env) (s : Shared) (H : Hp) (vs : List L2.V) (Q : VK) (E : XK), Room k (A.deeper (envOfC qual (defScope st) s.heap.objs.size f (.ref c))) → sp vs H Q E →
      ∃ t, PSs (cxOf CX0 P w K mg base N qual (defScope st) f (.ref c) A outer s H E).nox (defBody st) t ∧ t { nx := fun _ H' => Q .non H', rt := Q } (L2.start N vs) H) : FnOk P w K mg base CX0 (k + 1) f fd ps sp := by
  obtain ⟨oc, od, kV, doc, pm, an, ct, osl, rfl, lk, hcd⟩ := F.ex
  exact fn_of lk hcd S len fun A outer s H vs Q E hr hsp => (body A outer s H vs Q E hr hsp).elim fun t ht => ⟨t, ht.1.nox, ht.2⟩
section
variable {s t : Addr} {n : Nat} {T : List (Addr × Str)} {F0 F : List Addr} {H0 H B : Hp} {p : Addr} {d : D} {σ : L2.St} {tl : XK → TE} {ta : TA} {De : Ends} {tz : TS} {C CB CP : Addr} {fl : Str} {K : PySem.W.Frag}
theorem i_setL {i : Nat} (h : ta σ H fun vs H1 => vs.length ≤ sizeLine ∧ ∀ p, H1 p = none → tz De (σ.set i (some (.ref p))) (upd H1 p (.lst vs))) : tSeq (tAsg (tLst ta) (gName i)) tz De σ H := h
theorem x_lamref {Q : VK} (R : Rn (DL.St s t n) F0 H0 F B H) (L : Lw T F B H) (n0 : NB (Hd (DL.St s t n) F0 H0)) (h0 : ∀ p ∈ T, p.1 ∉ F0) (wh : (C = CB ∧ fl = "village") ∨ (C = CP ∧ fl = "purse")) (h : ∀ B1, Le B B1 → Rais (DL.St s t n) tl σ B1 C fl d)
    (k : ∀ v B' H', Le B B' → (∀ Bb, NB Bb → Ex Bb B → Ex Bb B') → (∀ b ∈ F, (∀ p ∈ T, p.1 ≠ b) → H' b = H b) → Rn (DL.St s t n) F0 H0 F B' H' → Lw T F B' H' → Dt B' (.tup [.str fl, d]) v → Q v H') : tLam T (TTref CB CP) tl σ H Q := by
  obtain ⟨tb, go⟩ := lamK R L n0 h0
  refine ⟨tb, fun H1 e T1 => ?_⟩
  obtain ⟨B1, R1, L1, le, bb, own⟩ := go H1 e T1
  refine h B1 le F0 H0 F H1 (metX CB CP "village" "purse" Q) (fun _ H2 => Q .non H2) R1 fun dx y B2 H2 e2 g2 R2 hx hy => ?_
  have fin : ∀ p, H2 p = none → Q (.ref p) (upd H2 p (.tup [.str fl, y])) := fun p hp => by
    have g3 := R2.w.new hp (.tup [.str fl, y])
    exact k _ _ _ (le.trans (e2.trans (R2.ext g3)).le) (fun Bb nb eb => ((bb Bb nb eb).trans e2).trans (R2.ext g3)) (fun b hb hn => by rw [g3.x b hb, g2.x b hb, own b hb hn]) (R2.step g3) (L1.step (e2.trans (R2.ext g3)) (fun b hb => by rw [g3.x b hb, g2.x b hb]))
      (tup_mk (hd_some.mpr ⟨R2.w.nS (Fr.of hp), upd_same⟩) (DtL.cons rfl (DtL.cons (hy.mono (R2.ext g3).le) DtL.nil)))
  rcases wh with ⟨rfl, rfl⟩ | ⟨rfl, rfl⟩
  · exact .inl ⟨rfl, dx, y, rfl, hx, fin⟩
  · exact .inr ⟨rfl, dx, y, rfl, hx, fin⟩
/-- told.append(_law_refusal(lambda: ..)), told ours -/
theorem r_applam {i : Nat} {vs : List L2.V} {ds : List D} (R : Rn (DL.St s t n) F0 H0 (p :: F) B H) (L : Lw T (p :: F) B H) (n0 : NB (Hd (DL.St s t n) F0 H0)) (h0 : ∀ p ∈ T, p.1 ∉ F0) (np : ∀ q ∈ T, q.1 ≠ p) (nS : p ∉ (DL.St s t n).S) (nF : p ∉ F) (nF0 : p ∉ F0) (hi : σ[i]? = some (some (.ref p))) (hp : H p = some (.lst vs)) (hd : DtL B ds vs) (hz : vs.length < sizeLine)
    (wh : (C = CB ∧ fl = "village") ∨ (C = CP ∧ fl = "purse")) (h : ∀ B1, Le B B1 → Rais (DL.St s t n) tl σ B1 C fl d)
    (k : ∀ v B' H', Le B B' → (∀ Bb, NB Bb → Ex Bb B → Ex Bb B') → (∀ b ∈ F, (∀ p ∈ T, p.1 ≠ b) → H' b = H b) → Rn (DL.St s t n) F0 H0 (p :: F) B' H' → Lw T (p :: F) B' H' → H' p = some (.lst (vs ++ [v])) → DtL B' (ds ++ [.tup [.str fl, d]]) (vs ++ [v]) → tz De σ H') :
    tSeq (tDrop (tBM K "list" rAppend (tVar i) (tCons (tLam T (TTref CB CP) tl) tNil))) tz De σ H :=
  ⟨_, hi, .inl ⟨rfl, vs, SqL.of hp⟩, i_cons (x_lamref R L n0 h0 wh h fun v B' H' le bb own R' L' dv => ⟨p, vs, v, rfl, rfl, by rw [own p List.mem_cons_self np]; exact hp, hz,
    k v B' _ le bb (fun b hb hn => by rw [upd_ne (fun z => nF (by rw [← z]; exact hb)), own b (List.mem_cons_of_mem _ hb) hn]) (R'.put List.mem_cons_self nS nF0 rfl) (L'.put np rfl) upd_same (DtL.append (hd.mono le) (DtL.cons dv DtL.nil))⟩)⟩
end
/-! ### what may be compared -/
theorem smok_fl {k : Nat} {x : D} (h : (fl x).isSome = true) : SmOk (k + 1) x := by
  refine ⟨(by cases x <;> first | rfl | cases h), fun l e => ?_, fun ks l e => ?_⟩
  · cases x <;> first | (cases h; done) | (cases e; done)
  · cases x <;> first | (cases h; done) | (cases e; done)
theorem smok_lst {k : Nat} {l : List D} (hl : l.length ≤ 100) (h : ∀ a ∈ l, SmOk k a) : SmOk (k + 1) (.lst l) := ⟨rfl, fun l' e => (by cases e; exact ⟨hl, h⟩), fun ks l e => (by cases e)⟩
theorem smok_tup {k : Nat} {l : List D} (hl : l.length ≤ 100) (h : ∀ a ∈ l, SmOk k a) : SmOk (k + 1) (.tup l) := ⟨rfl, fun l' e => (by cases e; exact ⟨hl, h⟩), fun ks l e => (by cases e)⟩
theorem smok_dic {k : Nat} {ks : List L2.Key} {l : List D} (h : SmOk k (.lst (itemsD ks l))) : SmOk (k + 1) (.dic ks l) := ⟨rfl, fun l' e => (by cases e), fun ks' l' e => (by cases e; exact h)⟩
theorem smok_mono : ∀ {k : Nat} {x : D}, SmOk k x → SmOk (k + 1) x
  | 0, _, h => (show False from h).elim
  | k + 1, x, h => ⟨h.1, fun l e => ⟨(h.2.1 l e).1, fun a ha => smok_mono ((h.2.1 l e).2 a ha)⟩, fun ks l e => smok_mono (h.2.2 ks l e)⟩
theorem smok_up {k : Nat} {x : D} (h : SmOk k x) : ∀ j, SmOk (k + j) x
  | 0 => h
  | j + 1 => smok_mono (smok_up h j)
theorem smok_two {k : Nat} {x y : D} (hx : SmOk k x) (hy : SmOk k y) : SmOk (k + 1) (.tup [x, y]) := smok_tup (by show 2 ≤ 100; omega) fun a ha => by
  rcases List.mem_cons.mp ha with rfl | ha
  · exact hx
  · rw [List.mem_singleton] at ha; rw [ha]; exact hy
def odds : List D := [.non, .str "v", .lst [.int 1], .dic [] [], .int 5]
theorem odd_facts {C : Addr} {V : Vl} (pV : VOk V) {d : D} (h : d ∈ odds) : isVilD d = false ∧ okR C d ∧ okT C d ∧ countsD V d = false ∧ SmOk 3 d := by
  unfold odds at h
  simp only [List.mem_cons, List.not_mem_nil, or_false] at h
  have hl := List.length_pos_iff.mpr pV.n0
  rcases h with rfl | rfl | rfl | rfl | rfl
  · exact ⟨rfl, ⟨trivial, fun l e => by cases e⟩, ⟨trivial, fun ks l e => by cases e⟩, rfl, smok_fl rfl⟩
  · exact ⟨rfl, ⟨trivial, fun l e => by cases e⟩, ⟨trivial, fun ks l e => by cases e⟩, rfl, smok_fl rfl⟩
  · refine ⟨rfl, ⟨trivial, fun l e x hx => ?_⟩, ⟨trivial, fun ks l e => by cases e⟩, rfl, smok_lst (by show 1 ≤ 100; omega) fun a ha => ?_⟩
    · cases e
      rw [List.mem_singleton] at hx
      subst hx
      exact ⟨trivial, fun ks l e => by cases e⟩
    · rw [List.mem_singleton] at ha; rw [ha]; exact smok_fl rfl
  · refine ⟨rfl, ⟨trivial, fun l e => by cases e⟩, ⟨trivial, fun ks l e => ?_⟩, ?_, smok_dic (smok_lst (by show 0 ≤ 100; omega) fun a ha => by cases ha)⟩
    · cases e; exact ⟨rfl, List.nodup_nil, fun x hx => by cases hx⟩
    · show (decide (0 = V.ns.length) && _) = false
      rw [decide_eq_false (by omega)]; rfl
  · exact ⟨rfl, ⟨trivial, fun l e => by cases e⟩, ⟨trivial, fun ks l e => by cases e⟩, rfl, smok_fl rfl⟩
section
variable {P : Program} {w : World} {K : PySem.W.Frag} {mg : Str → Option Value} {base : Heap} {f C : Addr} {fd : FuncData} {M : Md} {σ : L2.St} {B : Hp} {te ta tb : TE} {V : Vl} {d : D} {F0 F : List Addr} {H0 H : Hp} {De : Ends} {tz : TS}
theorem rais_rt {tr : TA} {CB CR : Addr} {r : D} (h : EvA M tr σ B [d, r]) (h1 : isVilD d = false) (h2 : okV C d) (h3 : okR C r) : Rais M (fun E => tCall (Sp_reading_text C CB CR) [] E tr) σ B CB "village" d := fun F0 H0 F H E Q R k =>
  h F H _ R.w fun vs H1 g1 hv => by
    have W1 := R.w.go g1
    refine ⟨M.S ++ F, d, r, app_tr W1, by rw [hd_app, List.append_nil]; exact hv, ⟨h2, h3, fun z => by rw [h1] at z; cases z⟩, fun _ dx y H' g' hx hy => ?_, fun V e => ?_⟩
    · have g2 := g1.trans (go_app W1 g')
      rw [hd_app] at hy
      exact k dx y _ H' (R.ext g2) g2 (R.step g2) hx hy
    · rw [e] at h1; cases h1
theorem rais_rd {tr : TA} {CB CT : Addr} {r : D} (h : EvA M tr σ B [d, r]) (h1 : isVilD d = false) (h2 : okV C d) (h3 : okV C r) (h4 : okS r) : Rais M (fun E => tCall (Sp_read_reading C CB CT) [] E tr) σ B CB "village" d := fun F0 H0 F H E Q R k =>
  h F H _ R.w fun vs H1 g1 hv => by
    have W1 := R.w.go g1
    refine ⟨M.S ++ F, d, r, app_tr W1, by rw [hd_app, List.append_nil]; exact hv, ⟨h2, h3, h4, fun z => by rw [h1] at z; cases z⟩, fun _ dx y H' g' hx hy => ?_, fun z => ?_, fun V s e => ?_⟩
    · have g2 := g1.trans (go_app W1 g')
      rw [hd_app] at hy
      exact k dx y _ H' (R.ext g2) g2 (R.step g2) hx hy
    · rw [h1] at z; cases z
    · rw [e] at h1; cases h1
def Sp_refused (C : Addr) (T : List (Addr × Str)) : Sp := fun vs H Q _ => ∃ (s t : Addr) (n : Nat) (F : List Addr) (V : Vl) (x y : L2.V), vs = [.ref s, x, y] ∧ Dj s t F ∧ s ≠ t ∧ Wd (DL.St s t n) F (Hd (DL.St s t n) F H) H ∧ Dt (Hd (DL.St s t n) F H) (lvD V) x ∧ Dt (Hd (DL.St s t n) F H) (vD C V) y ∧ VOk V ∧ Lw T F (Hd (DL.St s t n) F H) H ∧ n + 1 ≤ 2 ^ 40 ∧
  ∀ H' B', (∀ Bb, NB Bb → Ex Bb (Hd (DL.St s t n) F H) → Ex Bb B') → Le (Hd (DL.St s t n) F H) B' → (∀ b ∈ F, (∀ p ∈ T, p.1 ≠ b) → H' b = H b) → Wd (DL.St s t (n + 1)) F B' H' → Lw T F B' H' → Q (.bl true) H'
theorem spRefd_len {C : Addr} {T : List (Addr × Str)} : ∀ (vs : List L2.V) (H : Hp) (Q : VK) (E : XK), Sp_refused C T vs H Q E → vs.length = 3 := fun vs H Q E ⟨_, _, _, _, _, _, _, e, _⟩ => by rw [e]; rfl
abbrev N_refd : List Str := ["stream", "village", "made", "odd", "told"]
/-- the name that a lambda of _law_are_refused bears -/
abbrev q_refd : Str := (envOfC "_law_are_refused" (defScope s_law_are_refused) 0 0 .none).qual ++ "<lambda>"
theorem ok_refused {c c0 CB CP CT CR P2 aR a1 a2 a3 a4 a5 a6 a7 : Addr} {fdR : FuncData} {T : List (Addr × Str)} (F : FunC K "_law_are_refused" "_law_are_refused" s_law_are_refused f fd c) (N : Bn mg)
    (TB : TabB base mg c P2) (hT : (P2, q_refd) ∈ T) (hu : ∀ p ∈ T, p.1 = P2 → p.2 = q_refd)
    (FR : Fun K "_law_refusal" "_law_refusal" s_law_refusal aR fdR) (gR : mg "_law_refusal" = some (.ref aR)) (bR : Binds K fdR ["ask"] []) (mB : mg "BadVillage" = some (.ref CB)) (mP : mg "BadPurse" = some (.ref CP)) (EX : Exc2 K CB CP "village" "purse")
    (g1 : mg "_law_pick" = some (.ref a1)) (O1 : OkF P w K mg base 2 a1 ["stream", "things"] Sp_pick) (g2 : mg "_law_same" = some (.ref a2)) (O2 : OkF P w K mg base 9 a2 ["found", "due"] (Sp_same 8))
    (g3 : mg "village_text" = some (.ref a3)) (O3 : OkX P w K mg base 4 a3 ["village"] (Sp_village_text C CB)) (g4 : mg "purse_text" = some (.ref a4)) (O4 : OkX P w K mg base 5 a4 ["village", "purse"] (Sp_check_purse C CB CP))
    (g5 : mg "read_purse" = some (.ref a5)) (O5 : OkX P w K mg base 4 a5 ["village", "text"] (Sp_read_purse C CB)) (g6 : mg "reading_text" = some (.ref a6)) (O6 : OkX P w K mg base 5 a6 ["village", "reading"] (Sp_reading_text C CB CR))
    (g7 : mg "read_reading" = some (.ref a7)) (O7 : OkX P w K mg base 5 a7 ["village", "text"] (Sp_read_reading C CB CT)) : FnOk P w K mg base CX0 10 f fd ["stream", "village", "made"] (Sp_refused C T) := by
  refine F.ok sc_law_are_refused spRefd_len (fun A outer s H vs Q E hr h => ?_)
  obtain ⟨st, t, n, F0, V, x, y, rfl, dj, ne, W, hx, hy, pV, L0, hc, kf⟩ := h
  obtain ⟨oc, od, kV, doc, pm, an, cdv, ct, osl, rfl, lk, hcd⟩ := FR.ex
  have hr7 := hr.mono (show 7 ≤ 9 by decide)
  refine ⟨_, pss_cons (ps_set (i := 3) sc_law_are_refused.nd rfl (Or.inr rfl) (pe_c O1 (hr.mono (by decide)) g1 (pa_cons (pv 0) (pa_cons (pe_lst (pa_cons pe_non (pa_cons pe_str (pa_cons (pe_lst (pa_cons pe_int pa_nil)) (pa_cons pe_dnewK (pa_cons pe_int pa_nil)))))) pa_nil))))
    (pss_cons (ps_set (i := 4) sc_law_are_refused.nd rfl (Or.inl rfl) (pe_lst (pa_cons (pe_lamcall (T := T) (k := 5) (t := fun E => tCall (Sp_village_text C CB) [] E (tCons (tVar 3) tNil)) (by rfl) gR FR.kp lk hcd bR sc_law_refusal rfl (.inl rfl) (ref_gives mB mP EX) TB rfl hT hu hr7 (lamS_by (sc := defScope s_law_are_refused) (by decide +kernel)) rfl (fun _ _ _ _ _ => rfl) (fun A outer s H E f c' hr' => pe_cx (E := E) O3 (hr'.mono (by decide)) g3 (takes_of rfl rfl rfl rfl) (fun _ _ _ _ h => h) (pa_cons (pv 3) pa_nil))) pa_nil)))
    (pss_cons (ps_expr (pe_bm PySem.F.plainAttrs_list PySem.F.slot_list_append PySem.F.type_list_append mt_append (pv 4) (pa_cons (pe_lamcall (T := T) (k := 5) (t := fun E => tCall (Sp_check_purse C CB CP) [] E (tCons (tVar 3) (tCons tDNewK tNil))) (by rfl) gR FR.kp lk hcd bR sc_law_refusal rfl (.inl rfl) (ref_gives mB mP EX) TB rfl hT hu hr7 (lamS_by (sc := defScope s_law_are_refused) (by decide +kernel)) rfl (fun _ _ _ _ _ => rfl) (fun A outer s H E f c' hr' => pe_cx (E := E) O4 hr' g4 (takes_of rfl rfl rfl rfl) (fun _ _ _ _ h => h) (pa_cons (pv 3) (pa_cons pe_dnewK pa_nil)))) pa_nil)))
    (pss_cons (ps_expr (pe_bm PySem.F.plainAttrs_list PySem.F.slot_list_append PySem.F.type_list_append mt_append (pv 4) (pa_cons (pe_lamcall (T := T) (k := 5) (t := fun E => tCall (Sp_check_purse C CB CP) [] E (tCons (tVar 2) (tCons (tVar 3) tNil))) (by rfl) gR FR.kp lk hcd bR sc_law_refusal rfl (.inl rfl) (ref_gives mB mP EX) TB rfl hT hu hr7 (lamS_by (sc := defScope s_law_are_refused) (by decide +kernel)) rfl (fun _ _ _ _ _ => rfl) (fun A outer s H E f c' hr' => pe_cx (E := E) O4 hr' g4 (takes_of rfl rfl rfl rfl) (fun _ _ _ _ h => h) (pa_cons (pv 2) (pa_cons (pv 3) pa_nil)))) pa_nil)))
    (pss_cons (ps_expr (pe_bm PySem.F.plainAttrs_list PySem.F.slot_list_append PySem.F.type_list_append mt_append (pv 4) (pa_cons (pe_lamcall (T := T) (k := 5) (t := fun E => tCall (Sp_read_purse C CB) [] E (tCons (tVar 3) (tCons (tC (.str "")) tNil))) (by rfl) gR FR.kp lk hcd bR sc_law_refusal rfl (.inl rfl) (ref_gives mB mP EX) TB rfl hT hu hr7 (lamS_by (sc := defScope s_law_are_refused) (by decide +kernel)) rfl (fun _ _ _ _ _ => rfl) (fun A outer s H E f c' hr' => pe_cx (E := E) O5 (hr'.mono (by decide)) g5 (takes_of rfl rfl rfl rfl) (fun _ _ _ _ h => h) (pa_cons (pv 3) (pa_cons pe_str pa_nil)))) pa_nil)))
    (pss_cons (ps_expr (pe_bm PySem.F.plainAttrs_list PySem.F.slot_list_append PySem.F.type_list_append mt_append (pv 4) (pa_cons (pe_lamcall (T := T) (k := 5) (t := fun E => tCall (Sp_reading_text C CB CR) [] E (tCons (tVar 3) (tCons (tC .non) tNil))) (by rfl) gR FR.kp lk hcd bR sc_law_refusal rfl (.inl rfl) (ref_gives mB mP EX) TB rfl hT hu hr7 (lamS_by (sc := defScope s_law_are_refused) (by decide +kernel)) rfl (fun _ _ _ _ _ => rfl) (fun A outer s H E f c' hr' => pe_cx (E := E) O6 hr' g6 (takes_of rfl rfl rfl rfl) (fun _ _ _ _ h => h) (pa_cons (pv 3) (pa_cons pe_non pa_nil)))) pa_nil)))
    (pss_cons (ps_expr (pe_bm PySem.F.plainAttrs_list PySem.F.slot_list_append PySem.F.type_list_append mt_append (pv 4) (pa_cons (pe_lamcall (T := T) (k := 5) (t := fun E => tCall (Sp_read_reading C CB CT) [] E (tCons (tVar 3) (tCons (tC (.str "")) tNil))) (by rfl) gR FR.kp lk hcd bR sc_law_refusal rfl (.inl rfl) (ref_gives mB mP EX) TB rfl hT hu hr7 (lamS_by (sc := defScope s_law_are_refused) (by decide +kernel)) rfl (fun _ _ _ _ _ => rfl) (fun A outer s H E f c' hr' => pe_cx (E := E) O7 hr' g7 (takes_of rfl rfl rfl rfl) (fun _ _ _ _ h => h) (pa_cons (pv 3) (pa_cons pe_str pa_nil)))) pa_nil)))
    (pss_one (ps_ret (pe_c O2 hr g2 (pa_cons (pv 4) (pa_cons (pe_lst (pa_cons (pe_tup (pa_cons pe_str (pa_cons (pv 3) pa_nil))) (pa_cons (pe_tup (pa_cons pe_str (pa_cons (pv 3) pa_nil))) (pa_cons (pe_tup (pa_cons pe_str (pa_cons (pv 3) pa_nil))) (pa_cons (pe_tup (pa_cons pe_str (pa_cons (pv 3) pa_nil))) (pa_cons (pe_tup (pa_cons pe_str (pa_cons (pv 3) pa_nil))) (pa_cons (pe_tup (pa_cons pe_str (pa_cons (pv 3) pa_nil))) pa_nil))))))) pa_nil))))))))))), ?_⟩
  -- what is known without the tables
  have R0 : Rn (DL.St st t n) [] (DL.nt (Hd (DL.St st t n) F0 H)) F0 (DL.nt (Hd (DL.St st t n) F0 H)) H := ⟨W.up nt_ex, hd_ex, (fun b hb => by cases hb), (fun b hb => by cases hb)⟩
  have n0 : ∀ m, NB (Hd (DL.St st t m) [] (DL.nt (Hd (DL.St st t n) F0 H))) := fun m b o h => nb_nt b o (hd_some.mp h).2
  have h0 : ∀ p ∈ T, p.1 ∉ ([] : List Addr) := fun p _ z => by cases z
  have hx0 := hx.mono nt_le
  have hy0 := hy.mono nt_le
  have hsz : (101 : Nat) ≤ sizeLine := by decide
  refine r_setS (es_pick0 (th := .lst odds) (l := odds) ne rfl (fun n' => EvF.ev (ef_lst (ea_cons ev_non (ea_cons ev_str (ea_cons (EvF.ev (ef_lst (ea_cons ev_int ea_nil) (show 1 ≤ sizeLine by decide))) (ea_cons (EvG.ev eg_dict0) (ea_cons ev_int ea_nil))))) (show 5 ≤ sizeLine by decide))) rfl (by decide) (by decide)) R0 dj (by omega) fun v3 B1 H1 d pd e1 k1 R1 dv3 => ?_
  obtain ⟨dV, dR, dT, dC, dS⟩ := odd_facts (C := C) pV pd
  have dO : okV C d := dT.1
  have L1 : Lw T F0 B1 H1 := (L0.nt).step e1 k1
  have hx1 := hx0.mono e1.le
  have hy1 := hy0.mono e1.le
  -- told
  refine i_setL (i_cons (x_lamref (C := CB) (fl := "village") (d := d) R1 L1 (n0 _) h0 (.inl ⟨rfl, rfl⟩) (fun B2 le => rais_callQR (inp := fun d => [d]) d (ea_cons (ev_var (i := 3) rfl (dv3.mono le)) ea_nil) ⟨dO, dV⟩ rfl) fun v B2 H2 le2 bb2 own2 R2 Lw2 dv => ⟨show 1 ≤ sizeLine by decide, fun p hp => ?_⟩))
  have np : ∀ q ∈ T, q.1 ≠ p := Lw2.nT R2.w (Fr.of hp)
  obtain ⟨R3, e3, nF, nS⟩ := R2.own (R2.w.new hp (.lst [v])) (Fr.of hp) upd_same rfl
  have L3 : Lw T (p :: F0) _ (upd H2 p (.lst [v])) := ((Lw2.step e3 (fun b hb => upd_ne (fun z => nF (by rw [← z]; exact hb)))).own upd_same rfl)
  have hp3 : upd H2 p (.lst [v]) p = some (.lst [v]) := upd_same
  have own3 : ∀ b ∈ F0, (∀ q ∈ T, q.1 ≠ b) → upd H2 p (.lst [v]) b = H b := fun b hb hn => by rw [upd_ne (fun z => nF (by rw [← z]; exact hb)), own2 b hb hn, k1 b hb]
  have dl3 := DtL.cons (dv.mono e3.le) (DtL.nil (H := Hd (DL.St st t (n + 1)) (p :: F0) (upd H2 p (.lst [v]))))
  have le13 := le2.trans e3.le
  have bb3 : ∀ Bb, NB Bb → Ex Bb (Hd (DL.St st t n) F0 H) → Ex Bb (Hd (DL.St st t (n + 1)) (p :: F0) (upd H2 p (.lst [v]))) := fun Bb nb eb => (bb2 Bb nb ((ex_nt nb eb).trans e1)).trans e3
  revert R3 L3 hp3 own3 dl3 le13 bb3
  generalize upd H2 p (.lst [v]) = H3
  generalize Hd (DL.St st t (n + 1)) (p :: F0) H3 = B3
  intro R3 L3 hp3 own3 dl3 le13 bb3
  have nF0 : p ∉ ([] : List Addr) := fun z => by cases z
  have dv33 := dv3.mono le13
  have hy3 := hy1.mono le13
  have chk : ∀ x, chkP CB CP (d, x) = .er CB "village" d := fun x => by unfold chkP; rw [if_neg (by rw [dV]; simp)]
  have dlen : ∀ {B : Hp} {ds : List D} {vs : List L2.V}, DtL B ds vs → ds.length ≤ 10 → vs.length < sizeLine := fun h hl => by rw [h.length]; omega
  -- purse_text(odd, {})
  refine r_applam (C := CB) (fl := "village") (d := d) R3 L3 (n0 _) h0 np nS nF nF0 rfl hp3 dl3 (dlen dl3 (by show 1 ≤ 10; omega)) (.inl ⟨rfl, rfl⟩) (fun B' le => rais_callQR (inp := fun p : D × D => [p.1, p.2]) (d, .dic [] []) (ea_cons (ev_var (i := 3) rfl (dv33.mono le)) (ea_cons (EvG.ev eg_dict0) ea_nil)) ⟨dO, ⟨trivial, fun ks l e => by cases e; exact ⟨rfl, List.nodup_nil, fun x hx => by cases hx⟩⟩, fun z => by rw [dV] at z; cases z⟩ (chk _)) fun v4 B4 H4 le4 bb4 own4 R4 L4 hp4 dl4 => ?_
  have dv34 := dv33.mono le4
  have hy4 := hy3.mono le4
  -- purse_text(made, odd)
  refine r_applam (C := CP) (fl := "purse") (d := d) R4 L4 (n0 _) h0 np nS nF nF0 rfl hp4 dl4 (dlen dl4 (by show 2 ≤ 10; omega)) (.inr ⟨rfl, rfl⟩) (fun B' le => rais_callQR (inp := fun p : D × D => [p.1, p.2]) (vD C V, d) (ea_cons (ev_var (i := 2) rfl (hy4.mono le)) (ea_cons (ev_var (i := 3) rfl (dv34.mono le)) ea_nil)) ⟨rfl, dT, fun _ => ⟨V, rfl, pV, dC⟩⟩ rfl) fun v5 B5 H5 le5 bb5 own5 R5 L5 hp5 dl5 => ?_
  have dv35 := dv34.mono le5
  -- read_purse(odd, "")
  refine r_applam (C := CB) (fl := "village") (d := d) R5 L5 (n0 _) h0 np nS nF nF0 rfl hp5 dl5 (dlen dl5 (by show 3 ≤ 10; omega)) (.inl ⟨rfl, rfl⟩) (fun B' le => rais_callQR (inp := fun p : D × D => [p.1, p.2]) (d, .str "") (ea_cons (ev_var (i := 3) rfl (dv35.mono le)) (ea_cons ev_str ea_nil)) ⟨dO, dV⟩ rfl) fun v6 B6 H6 le6 bb6 own6 R6 L6 hp6 dl6 => ?_
  have dv36 := dv35.mono le6
  -- reading_text(odd, None)
  refine r_applam (C := CB) (fl := "village") (d := d) R6 L6 (n0 _) h0 np nS nF nF0 rfl hp6 dl6 (dlen dl6 (by show 4 ≤ 10; omega)) (.inl ⟨rfl, rfl⟩) (fun B' le => rais_rt (r := .non) (ea_cons (ev_var (i := 3) rfl (dv36.mono le)) (ea_cons ev_non ea_nil)) dV dO ⟨trivial, fun l e => by cases e⟩) fun v7 B7 H7 le7 bb7 own7 R7 L7 hp7 dl7 => ?_
  have dv37 := dv36.mono le7
  -- read_reading(odd, "")
  refine r_applam (C := CB) (fl := "village") (d := d) R7 L7 (n0 _) h0 np nS nF nF0 rfl hp7 dl7 (dlen dl7 (by show 5 ≤ 10; omega)) (.inl ⟨rfl, rfl⟩) (fun B' le => rais_rd (r := .str "") (ea_cons (ev_var (i := 3) rfl (dv37.mono le)) (ea_cons ev_str ea_nil)) dV dO trivial (fun s e => by cases e; exact ⟨by decide, fun c hc => by cases hc⟩)) fun v8 B8 H8 le8 bb8 own8 R8 L8 hp8 dl8 => ?_
  have dv38 := dv37.mono le8
  obtain ⟨R9, e9⟩ := R8.see (G := F0) (fun b hb => List.mem_cons_of_mem _ hb) (fun b hb => by cases hb)
  have L9 := (L8.drop np).up e9
  have dtold := lst_mk (hd_some.mpr ⟨⟨nS, nF⟩, hp8⟩ : Hd (DL.St st t (n + 1)) F0 H8 p = some (.lst _)) (dl8.mono e9.le)
  have dv39 := dv38.mono e9.le
  have tupE : ∀ {w : Str}, Ev (DL.St st t (n + 1)) (tTup (tCons (tC (.str w)) (tCons (tVar 3) tNil))) [some (.ref st), some x, some y, some v3, some (.ref p)] (Hd (DL.St st t (n + 1)) F0 H8) (.tup [.str w, d]) := fun {w} => ev_tup (ea_cons ev_str (ea_cons (ev_var (i := 3) rfl dv39) ea_nil)) (show (2 : Nat) ≤ sizeLine by decide)
  have sm : SmOk 8 (.lst [.tup [.str "village", d], .tup [.str "village", d], .tup [.str "purse", d], .tup [.str "village", d], .tup [.str "village", d], .tup [.str "village", d]]) := by
    have one : ∀ w : Str, SmOk 7 (.tup [.str w, d]) := fun w => smok_two (smok_fl rfl) (smok_up dS 3)
    refine smok_lst (by show 6 ≤ 100; omega) fun a ha => ?_
    simp only [List.mem_cons, List.not_mem_nil, or_false] at ha
    rcases ha with rfl | rfl | rfl | rfl | rfl | rfl <;> exact one _
  refine r_ev (Q := Q) R9 (ev_callQ (inp := fun x => [x, x]) (f := fun _ => .bl true) (.lst [.tup [.str "village", d], .tup [.str "village", d], .tup [.str "purse", d], .tup [.str "village", d], .tup [.str "village", d], .tup [.str "village", d]]) (ea_cons (ev_var (i := 4) rfl dtold) (ea_cons (EvF.ev (ef_lst (ea_cons tupE (ea_cons tupE (ea_cons tupE (ea_cons tupE (ea_cons tupE (ea_cons tupE ea_nil)))))) (show 6 ≤ sizeLine by decide))) ea_nil)) sm) fun v B10 H10 e10 g10 R10 dvv => ?_
  have evv : v = .bl true := dvv
  subst evv
  refine kf H10 B10 (fun Bb nb eb => ?_) ?_ (fun b hb hn => ?_) R10.w (L9.step e10 fun b hb => g10.x b hb)
  · exact (((bb8 _ nb (bb7 _ nb (bb6 _ nb (bb5 _ nb (bb4 _ nb (bb3 _ nb eb)))))).trans e9)).trans e10
  · exact (((((((((nt_le.trans e1.le).trans le13).trans le4).trans le5).trans le6).trans le7).trans le8).trans e9.le)).trans e10.le
  · rw [g10.x b hb, own8 b hb hn, own7 b hb hn, own6 b hb hn, own5 b hb hn, own4 b hb hn, own3 b hb hn]
end
end Pg

namespace Pg
open PySem PySem.Spec PyProof.Rows L2 DL RX RZ LiI LamX TA
/-! ### the due text, plain -/
theorem num_facts : ∀ n : Nat, n < 10 → intOf (strI ((n : Nat) : Int)) = some ((n : Nat) : Int) ∧ (strI ((n : Nat) : Int)).length ≤ 2 ∧ (strI ((n : Nat) : Int)).cps.toList.all (fun c => decide (48 ≤ c ∧ c ≤ 57)) = true := by decide +kernel
theorem num_fact {i : Int} (h0 : 0 ≤ i) (h1 : i < 10) : intOf (strI i) = some i ∧ (strI i).length ≤ 2 ∧ ∀ c ∈ (strI i).cps.toList, 48 ≤ c ∧ c ≤ 57 := by
  have h := num_facts i.toNat (by omega)
  rw [Int.toNat_of_nonneg h0] at h
  exact ⟨h.1, h.2.1, fun c hc => of_decide_eq_true (List.all_eq_true.mp h.2.2 c hc)⟩
theorem letters_rng : letters.cps.toList.all (fun c => decide (97 ≤ c ∧ c ≤ 122)) = true := by decide +kernel
theorem name_rng {s : Str} (h : isName s = true) {c : Nat} (hc : c ∈ s.cps.toList) : 97 ≤ c ∧ c ≤ 122 := by
  unfold isName at h
  rw [Bool.and_eq_true, List.all_eq_true] at h
  exact of_decide_eq_true (List.all_eq_true.mp letters_rng c (of_decide_eq_true (h.2 c hc)))
/-- a word: signs behind the blank -/
def Wrd (s : Str) : Prop := ∀ c ∈ s.cps.toList, 32 < c ∧ c < 128
theorem wrd_name {s : Str} (h : isName s = true) : Wrd s := fun c hc => by have := name_rng h hc; omega
theorem wrd_num {i : Int} (h0 : 0 ≤ i) (h1 : i < 10) : Wrd (strI i) := fun c hc => by have := (num_fact h0 h1).2.2 c hc; omega
theorem wrd_by {s : Str} (h : s.cps.toList.all (fun c => decide (32 < c ∧ c < 128)) = true) : Wrd s := fun c hc => of_decide_eq_true (List.all_eq_true.mp h c hc)
theorem mem_join_inv {sep : Str} {c : Nat} : ∀ ts : List Str, c ∈ (Str.join sep ts).cps.toList → (∃ t ∈ ts, c ∈ t.cps.toList) ∨ c ∈ sep.cps.toList
  | [], h => by cases h
  | [x], h => .inl ⟨x, by simp, h⟩
  | x :: y :: r, h => by
    have e : Str.join sep (x :: y :: r) = x ++ sep ++ Str.join sep (y :: r) := rfl
    rw [e] at h
    have h : c ∈ TL.tl (x ++ sep ++ Str.join sep (y :: r)) := h
    rw [TL.tl_append, TL.tl_append] at h
    rcases List.mem_append.mp h with h | h
    · rcases List.mem_append.mp h with h | h
      · exact .inl ⟨x, by simp, h⟩
      · exact .inr h
    · rcases mem_join_inv (y :: r) h with ⟨t, ht, hc⟩ | h
      · exact .inl ⟨t, List.mem_cons_of_mem _ ht, hc⟩
      · exact .inr h
def rowL (r : List D) : Str := Txt.join " " (r.map wS)
theorem rowL_split {r : List D} (hne : r ≠ []) (h : ∀ d ∈ r, Wrd (wS d)) : Txt.split (rowL r) " " = r.map wS := by
  refine TL.split_join (s := 32) (S := []) (by decide +kernel) (by decide +kernel) (fun e => hne (List.map_eq_nil_iff.mp e)) fun p hp hc => ?_
  obtain ⟨d, hd, rfl⟩ := List.mem_map.mp hp
  have := h d hd 32 hc
  omega
theorem rowL_line {r : List D} (h : ∀ d ∈ r, Wrd (wS d)) : ∀ c ∈ (rowL r).cps.toList, 32 ≤ c ∧ c < 128 := fun c hc => by
  unfold rowL at hc
  rw [TL.join_eq] at hc
  rcases mem_join_inv _ hc with ⟨t, ht, hc⟩ | hc
  · obtain ⟨d, hd, rfl⟩ := List.mem_map.mp ht
    have := h d hd c hc
    omega
  · have : c ∈ [32] := by
      have e : (" " : Str).cps.toList = [32] := by decide +kernel
      rw [e] at hc; exact hc
    rw [List.mem_singleton] at this
    omega
theorem join_cons (a : Str) (r : List Str) : Str.join ("" : Str) (a :: r) = a ++ Str.join "" r := PyProof.Rows.join_nil_cons a r
theorem join_lines : ∀ ls : List Str, Str.join ("" : Str) (ls.map fun l => l ++ nl) = Str.join nl (ls ++ [("" : Str)])
  | [] => rfl
  | x :: r => by
    rw [List.map_cons, join_cons, join_lines r, List.cons_append]
    cases hr : r ++ [("" : Str)] with
    | nil => cases r <;> cases hr
    | cons y s => rfl
theorem split_lines {ls : List Str} (h : ∀ l ∈ ls, ∀ c ∈ l.cps.toList, 32 ≤ c ∧ c < 128) : Txt.split (Txt.join "" (ls.map fun l => l ++ nl)) nl = ls ++ [("" : Str)] := by
  rw [TL.join_eq, join_lines, ← TL.join_eq]
  refine TL.split_join (s := 10) (S := []) (by decide +kernel) (by decide +kernel) (by simp) fun p hp hc => ?_
  rcases List.mem_append.mp hp with hp | hp
  · have := h p hp 10 hc
    omega
  · rw [List.mem_singleton] at hp
    subst hp
    cases hc
theorem rows_lines (rows : List (List D)) : rowsS rows = Txt.join "" ((rows.map rowL).map fun l => l ++ nl) := by
  unfold rowsS
  rw [List.map_map]; rfl
section
variable {V : Vl} {m : Int} {g : Str → Int}
def okRow (V : Vl) (m : Int) (g : Str → Int) : Prop := VOk V ∧ 2 ≤ m ∧ m < 10 ∧ ∀ a ∈ V.ns, 0 ≤ g a ∧ g a < m
theorem rd_of (pV : VOk V) (hm : m < 10) (h : readD V (rdgD V m g) = true) : okRow V m g := by
  rw [read_rdg pV, Bool.and_eq_true, Bool.and_eq_true, List.all_eq_true] at h
  refine ⟨pV, of_decide_eq_true h.1, hm, fun a ha => ?_⟩
  have := h.2.1 a ha
  rw [Bool.and_eq_true] at this
  exact ⟨of_decide_eq_true this.1, of_decide_eq_true this.2⟩
theorem rd_words (h : okRow V m g) : ∀ r ∈ rdRows V m g, r ≠ [] ∧ r.length ≤ 3 ∧ ∀ d ∈ r, Wrd (wS d) ∧ (wS d).length ≤ 8 := by
  obtain ⟨pV, h2, h10, hg⟩ := h
  intro r hr
  unfold rdRows at hr
  rcases List.mem_cons.mp hr with rfl | hr
  · refine ⟨by simp, by show 2 ≤ 3; omega, fun d hd => ?_⟩
    rcases List.mem_cons.mp hd with rfl | hd
    · exact ⟨wrd_by (by decide +kernel), by show ("reading" : Str).length ≤ 8; decide +kernel⟩
    · rw [List.mem_singleton] at hd
      subst hd
      exact ⟨wrd_num (by omega) h10, by have := (num_fact (show 0 ≤ m by omega) h10).2.1; show (strI m).length ≤ 8; omega⟩
  · obtain ⟨a, ha, rfl⟩ := List.mem_map.mp hr
    have hga := hg a ha
    refine ⟨by simp, by show 3 ≤ 3; omega, fun d hd => ?_⟩
    simp only [List.mem_cons, List.not_mem_nil, or_false] at hd
    rcases hd with rfl | rfl | rfl
    · exact ⟨wrd_by (by decide +kernel), by show ("weigh" : Str).length ≤ 8; decide +kernel⟩
    · exact ⟨wrd_name (pV.nm a ha), by have := name_len (pV.nm a ha); show a.length ≤ 8; omega⟩
    · exact ⟨wrd_num (by omega) (by omega), by have := (num_fact (show 0 ≤ g a by omega) (by omega)).2.1; show (strI (g a)).length ≤ 8; omega⟩
theorem rd_split (h : okRow V m g) : Txt.split (rdS V m g) nl = (rdRows V m g).map rowL ++ [("" : Str)] := by
  unfold rdS
  rw [rows_lines]
  refine split_lines fun l hl => ?_
  obtain ⟨r, hr, rfl⟩ := List.mem_map.mp hl
  exact rowL_line fun d hd => ((rd_words h r hr).2.2 d hd).1
theorem rd_parseR (h : okRow V m g) : ∀ (rest : List Str) (j : Nat), V.ns.drop j = rest → parseR V m (j + 1) (rest.map fun a => rowL [.str "weigh", .str a, .int (g a)]) = .inr (rest.map g)
  | [], j, _ => rfl
  | a :: rest, j, e => by
    obtain ⟨pV, h2, h10, hg⟩ := h
    have hj : V.ns[j]? = some a := by
      have : (V.ns.drop j)[0]? = some a := by rw [e]; rfl
      rw [List.getElem?_drop] at this
      exact this
    have hlt := (List.getElem?_eq_some_iff.mp hj).1
    have ha := List.mem_of_getElem? hj
    have hga := hg a ha
    have hw : Txt.split (rowL [.str "weigh", .str a, .int (g a)]) " " = [("weigh" : Str), a, strI (g a)] := rowL_split (by simp) fun d hd => ((rd_words ⟨pV, h2, h10, hg⟩ _ (List.mem_cons_of_mem _ (List.mem_map.mpr ⟨a, ha, rfl⟩))).2.2 d hd).1
    have hs : stepL V m (j + 1) (rowL [.str "weigh", .str a, .int (g a)]) = some (g a) := by
      rw [step_three (by omega) hw, if_pos ⟨rfl, by rw [Nat.add_sub_cancel]; exact hj⟩, (num_fact hga.1 (by omega)).1]
      dsimp only
      rw [if_pos hga]
    have e' : V.ns.drop (j + 1) = rest := by
      have := List.drop_eq_getElem_cons hlt
      rw [e] at this
      injection this with _ t
      exact t.symm
    have ih := rd_parseR ⟨pV, h2, h10, hg⟩ rest (j + 1) e'
    rw [List.map_cons, parseR, hs]
    dsimp only
    rw [ih]; rfl
theorem rd_parse (pV : VOk V) (hm : m < 10) (hr : readD V (rdgD V m g) = true) : parse V (rdS V m g) = .inr (m, V.ns.map g) := by
  have h := rd_of pV hm hr
  have hsp := rd_split h
  have hl : linesOf (rdS V m g) = (rdRows V m g).map rowL := by unfold linesOf; rw [hsp, List.dropLast_concat]
  have hre : restOf (rdS V m g) = "" := by unfold restOf; rw [hsp]; simp
  have hw : Txt.split (rowL [.str "reading", .int m]) " " = [("reading" : Str), strI m] := rowL_split (by simp) fun d hd => ((rd_words h _ List.mem_cons_self).2.2 d hd).1
  have hmod : modOf (rowL [.str "reading", .int m]) = some m := by
    unfold modOf
    rw [hw]
    dsimp only
    rw [if_pos rfl, (num_fact (by have := h.2.1; omega) hm).1]
    dsimp only
    rw [if_pos (by have := h.2.1; omega)]
  have hls : linesOf (rdS V m g) = rowL [.str "reading", .int m] :: V.ns.map fun a => rowL [.str "weigh", .str a, .int (g a)] := by
    rw [hl]
    unfold rdRows
    rw [List.map_cons, List.map_map]; rfl
  rw [parse_end hls hmod (rd_parseR h V.ns 0 rfl), hre, if_neg]
  have hf : fD V (V.ns.map g) = .dic (V.ns.map .inr) (V.ns.map fun a => .int (g a)) := by
    unfold fD
    rw [List.length_map, List.take_length, List.map_map]; rfl
  unfold badEnd
  rw [hf, List.length_map]
  have hro : readOk V (.int m) (.dic (V.ns.map .inr) (V.ns.map fun a => .int (g a))) = true := hr
  rw [hro]
  simp
theorem fD_rdg : fD V (V.ns.map g) = .dic (V.ns.map .inr) (V.ns.map fun a => .int (g a)) := by
  unfold fD
  rw [List.length_map, List.take_length, List.map_map]; rfl
theorem join_e_len (ts : List Str) {k : Nat} (h : ∀ t ∈ ts, t.length ≤ k) : (Str.join ("" : Str) ts).length ≤ ts.length * k := by
  have h1 := StrLaws.join_length_le "" ts
  have h2 := sum_len (g := fun t : Str => t.length) h
  have e : ("" : Str).length = 0 := rfl
  rw [e, Nat.mul_zero] at h1
  omega
theorem rd_len (h : okRow V m g) : (rdS V m g).length ≤ (V.ns.length + 1) * 28 := by
  unfold rdS
  rw [rows_lines, TL.join_eq]
  refine Nat.le_trans (join_e_len _ (k := 28) fun t ht => ?_) (by rw [List.length_map, List.length_map]; unfold rdRows; rw [List.length_cons, List.length_map]; exact Nat.le_refl _)
  obtain ⟨l, hl, rfl⟩ := List.mem_map.mp ht
  obtain ⟨r, hr, rfl⟩ := List.mem_map.mp hl
  obtain ⟨_, h3, hw⟩ := rd_words h r hr
  rw [cat_len, nl_len]
  have := txt_join_len " " (r.map wS) (c := 8) fun t ht => by
    obtain ⟨d, hd, rfl⟩ := List.mem_map.mp ht
    exact (hw d hd).2
  rw [List.length_map, sp_len] at this
  have h27 : r.length * (8 + 1) ≤ 3 * 9 := Nat.mul_le_mul h3 (Nat.le_refl _)
  show (rowL r).length + 1 ≤ 28
  unfold rowL
  omega
theorem rd_asc (h : okRow V m g) : Asc (rdS V m g) := fun c hc => by
  unfold rdS at hc
  rw [rows_lines, TL.join_eq] at hc
  rcases mem_join_inv _ hc with ⟨t, ht, hc⟩ | hc
  · obtain ⟨l, hl, rfl⟩ := List.mem_map.mp ht
    obtain ⟨r, hr, rfl⟩ := List.mem_map.mp hl
    have hc : c ∈ TL.tl (rowL r ++ nl) := hc
    rw [TL.tl_append] at hc
    rcases List.mem_append.mp hc with hc | hc
    · have := rowL_line (fun d hd => ((rd_words h r hr).2.2 d hd).1) c hc
      omega
    · have e : TL.tl nl = [10] := by decide +kernel
      rw [e, List.mem_singleton] at hc
      omega
  · cases hc
/-- what the law writes -/
theorem rd_due : ("reading " : Str) ++ strI m ++ "\n" ++ Txt.join "" (V.ns.map fun a => ("weigh " : Str) ++ a ++ " " ++ strI (g a) ++ "\n") = rdS V m g := by
  unfold rdS rdRows rowsS
  rw [List.map_cons, List.map_map, TL.join_eq, TL.join_eq, join_cons]
  have e1 : rowS [.str "reading", .int m] = ("reading " : Str) ++ strI m ++ "\n" := by
    unfold rowS
    rw [TL.join_eq]
    show ((("reading" : Str) ++ " " ++ strI m) ++ "\n" : Str) = _
    have : (("reading" : Str) ++ " " : Str) = "reading " := by decide +kernel
    rw [this]
  have e2 : ∀ a, rowS [.str "weigh", .str a, .int (g a)] = ("weigh " : Str) ++ a ++ " " ++ strI (g a) ++ "\n" := fun a => by
    unfold rowS
    rw [TL.join_eq]
    show ((("weigh" : Str) ++ " " ++ (a ++ " " ++ strI (g a))) ++ "\n" : Str) = _
    have e3 : (("weigh" : Str) ++ " " : Str) = "weigh " := by decide +kernel
    rw [e3]
    refine TL.ext_tl ?_
    simp only [TL.tl_append, List.append_assoc]
  rw [e1]
  rw [show (V.ns.map fun a => ("weigh " : Str) ++ a ++ " " ++ strI (g a) ++ "\n") = V.ns.map (rowS ∘ fun a => [D.str "weigh", .str a, .int (g a)]) from List.map_congr_left fun a _ => (e2 a).symm]
end
end Pg

namespace Pg
open PySem PySem.Spec PyProof.Rows L2 DL RX RZ LiI LamX TA
/-! ### readings in another order -/
theorem read_gen {V : Vl} {m : Int} {g : Str → Int} {h : D} {ks : List L2.Key} {l : List D} (hs : sq h = some [.int m, .dic ks l]) (hc : countsD V (.dic ks l) = true) (hl : (l.all fun x => numD x && decide (iD x < m)) = V.ns.all fun a => decide (0 ≤ g a) && decide (g a < m)) (hlk : ∀ a ∈ V.ns, lkI ks l a = g a) :
    readD V h = (decide (2 ≤ m) && ((V.ns.all fun a => decide (0 ≤ g a) && decide (g a < m)) && V.ns.all fun a => decide (behI V (fun _ => 0) g a % m = 0))) := by
  unfold readD
  rw [hs]
  show (decide (2 ≤ m) && (countsD V (.dic ks l) && ((l.all fun x => numD x && decide (iD x < m)) && V.ns.all fun a => decide (behI V (fun _ => 0) (lkI ks l) a % m = 0)))) = _
  rw [hc, hl, Bool.true_and]
  have e2 : (V.ns.all fun a => decide (behI V (fun _ => 0) (lkI ks l) a % m = 0)) = V.ns.all fun a => decide (behI V (fun _ => 0) g a % m = 0) := by
    have e : ∀ a ∈ V.ns, behI V (fun _ => 0) (lkI ks l) a = behI V (fun _ => 0) g a := fun a ha => by
      unfold behI
      rw [hlk a ha]
      have : (V.ns.map fun b => cnt V.ls a b * lkI ks l b) = V.ns.map fun b => cnt V.ls a b * g b := List.map_congr_left fun b hb => by rw [hlk b hb]
      rw [this]
    rw [Bool.eq_iff_iff, List.all_eq_true, List.all_eq_true]
    exact ⟨fun h a ha => by rw [← e a ha]; exact h a ha, fun h a ha => by rw [e a ha]; exact h a ha⟩
  rw [e2]
theorem read_perm {V : Vl} (pV : VOk V) {m : Int} {g : Str → Int} {h : D} {ms : List Str} (hp : ms.Perm V.ns) (hs : sq h = some [.int m, .dic (ms.map .inr) (ms.map fun a => .int (g a))]) : readD V h = readD V (rdgD V m g) := by
  rw [read_rdg pV]
  refine read_gen hs ?_ ?_ fun a ha => lkI_map (hp.mem_iff.mpr ha)
  · show (decide ((ms.map fun a => D.int (g a)).length = V.ns.length) && _) = true
    rw [Bool.and_eq_true]
    refine ⟨decide_eq_true (by rw [List.length_map, hp.length_eq]), ?_⟩
    rw [List.all_eq_true]
    intro p hpp
    rw [List.zip_map'] at hpp
    obtain ⟨a, ha, rfl⟩ := List.mem_map.mp hpp
    show (decide (a ∈ V.ns) && true) = true
    rw [decide_eq_true (hp.mem_iff.mp ha)]; rfl
  · rw [List.all_map, Bool.eq_iff_iff, List.all_eq_true, List.all_eq_true]
    exact ⟨fun h a ha => h a (hp.mem_iff.mpr ha), fun h a ha => h a (hp.mem_iff.mp ha)⟩
theorem rdS_congr {V : Vl} {m : Int} {g h : Str → Int} (e : ∀ a ∈ V.ns, g a = h a) : rdS V m g = rdS V m h := by
  unfold rdS rdRows
  rw [show (V.ns.map fun a => [D.str "weigh", .str a, .int (g a)]) = V.ns.map fun a => [D.str "weigh", .str a, .int (h a)] from List.map_congr_left fun a ha => by rw [e a ha]]
/-! ### calls by names alone -/
def swV (vs zs : List L2.V) : List L2.V := match vs, zs with
  | [], [a, b] => [b, a]
  | _, _ => []
def swU (us ws : List Value) : List Value := match us, ws with
  | [], [a, b] => [b, a]
  | _, _ => []
theorem sw_rel {vs : List L2.V} {us : List Value} {zs : List L2.V} {ws : List Value} (h : Vals vs us) (k : Vals zs ws) : Vals (swV vs zs) (swU us ws) := by
  cases h with
  | cons _ _ => exact .nil
  | nil =>
    cases k with
    | nil => exact .nil
    | cons r1 k =>
      cases k with
      | nil => exact .nil
      | cons r2 k =>
        cases k with
        | nil => exact .cons r2 (.cons r1 .nil)
        | cons _ _ => exact .nil
theorem sw_two {us ws : List Value} (h : (swU us ws).length = 2) : ∃ a b, us = [] ∧ ws = [a, b] := by
  unfold swU at h
  split at h
  · exact ⟨_, _, rfl, rfl⟩
  · cases h
theorem kb_read {K : PySem.W.Frag} {f : Addr} {fd : FuncData} (F : Fun K "read_reading" "read_reading" s_read_reading f fd) : KBinds K fd ["village", "text"] ["text", "village"] swU swV := by
  obtain ⟨oc, od, kV, doc, pm, an, cdv, ct, osl, rfl, lk, hcd⟩ := F.ex
  refine ⟨fun s us ws _ hl => ?_, fun h k => sw_rel h k⟩
  obtain ⟨a, b, rfl, rfl⟩ := sw_two hl
  exact .of_eq rfl
theorem kb_text {K : PySem.W.Frag} {f : Addr} {fd : FuncData} (F : Fun K "reading_text" "reading_text" s_reading_text f fd) : KBinds K fd ["village", "reading"] ["reading", "village"] swU swV := by
  obtain ⟨oc, od, kV, doc, pm, an, cdv, ct, osl, rfl, lk, hcd⟩ := F.ex
  refine ⟨fun s us ws _ hl => ?_, fun h k => sw_rel h k⟩
  obtain ⟨a, b, rfl, rfl⟩ := sw_two hl
  exact .of_eq rfl
def tCallS (sp : Sp) (E : XK) (tk : TA) : TE := fun σ H Q => tk σ H fun zs H2 => sp (swV [] zs) H2 Q E
structure OkXK (P : Program) (w : World) (K : PySem.W.Frag) (mg : Str → Option Value) (base : Heap) (k : Nat) (f : Addr) (ps ks : List Str) (sp : Sp) : Prop where
  ex : ∃ fd, FnOk P w K mg base (L2.CX P w) k f fd ps sp ∧ KBinds K fd ps ks swU swV
  kp : PySem.W.keepIn K (.ref f) = true
theorem pe_cxk {X : Cx} {W : WX} {E : XK} {k : Nat} {f : Addr} {ps ks : List Str} {sp : Sp} {x : Str} {p pos : Pos} {kws : List Keyword} {tk : TA} (O : OkXK X.prog X.w X.K X.mg X.base k f ps ks sp) (hr : Room k X.A) (hm : X.mg x = some (.ref f)) (tkW : Takes X W) (hW : ∀ cls d σ H, E cls d H → W cls d σ H)
    (hkw : PK X kws tk) (hg : Gl X x := by rfl) (hall : (backToKw pos (keywordEach kws X.env)).all (·.1.isSome) = true := by rfl) (hks : (backToKw pos (keywordEach kws X.env)).filterMap (·.1) = ks := by rfl) (hdb : (x == ("__debug__" : Str)) = false := by decide)
    (hpl : ((backTo pos (starEach [] X.env)).any (·.1) || (backToKw pos (keywordEach kws X.env)).any (·.1.isNone)) = false := by rfl) : PE X (.Call (.Name x p) [] kws pos) (tCallS sp E tk) := by
  obtain ⟨⟨fd, G, b⟩, kp⟩ := O
  exact ⟨fun pins s σ H Q I h => wpAny_Call_Name_kw (ld_glob I hg hm (PySem.W.callWith_KW0 (h₀ := X.base) I.ok.mod.kin kp hall (thn (hkw.run pos pins s σ H _ I h) fun ws s2 ⟨zs, H2, I2, rz, q2⟩ => ⟨I2.kIn, by
    rw [hks]
    exact run_fnk (us := []) (vs := []) G hr b (passes_call tkW hW) I2 .nil rz q2⟩) hpl) hdb)⟩
end Pg

namespace Pg
open PySem PySem.Spec PyProof.Rows L2 DL RX RZ LiI LamX TA
section
variable {K : PySem.W.Frag} {C CB CP CT CR : Addr} {M : Md} {σ : L2.St} {B : Hp} {te ta tb : TE} {tr : TA} {V : Vl} {d r tx : D} {F0 F : List Addr} {H0 H : Hp} {De : Ends} {tz : TS} {tl : XK → TE} {sp : Sp} {ds : List D} {s t : Addr} {n : Nat} {T : List (Addr × Str)}
/-- a call, its arguments evaluated -/
def CallsD (M : Md) (tl : XK → TE) (σ : L2.St) (B : Hp) (ds : List D) (sp : Sp) : Prop := ∀ (F : List Addr) (H : Hp) (E : XK) (Q : VK), Wd M F B H → (∀ vs H1, Go M F H H1 → DtL (Hd M F H1) ds vs → sp vs H1 Q E) → tl E σ H Q
theorem calls_pos (h : EvA M tr σ B ds) : CallsD M (fun E => tCall sp [] E tr) σ B ds sp := fun F H E Q W k => h F H _ W fun vs H1 g e => by
  have := k vs H1 g e
  rw [← List.append_nil vs] at this
  exact this
theorem calls_kw {a b : D} (h : EvA M tr σ B [b, a]) : CallsD M (fun E => tCallS sp E tr) σ B [a, b] sp := fun F H E Q W k => h F H _ W fun vs H1 g e => by
  obtain ⟨x, y, rfl, hx, hy⟩ := two_inv e
  exact k [y, x] H1 g (DtL.cons hy (DtL.cons hx DtL.nil))
theorem map_str_inj : ∀ {a b : List Str}, a.map D.str = b.map D.str → a = b
  | [], [], _ => rfl
  | [], _ :: _, h => by cases h
  | _ :: _, [], h => by cases h
  | x :: a, y :: b, h => by
    rw [List.map_cons, List.map_cons] at h
    injection h with h1 h2
    injection h1 with h1
    rw [h1, map_str_inj h2]
theorem map_pD_inj : ∀ {a b : List (Str × Str)}, a.map pD = b.map pD → a = b
  | [], [], _ => rfl
  | [], _ :: _, h => by cases h
  | _ :: _, [], h => by cases h
  | x :: a, y :: b, h => by
    rw [List.map_cons, List.map_cons] at h
    injection h with h1 h2
    unfold pD at h1
    injection h1 with h1
    injection h1 with h3 h4
    injection h4 with h4 _
    injection h3 with h3
    injection h4 with h4
    rw [map_pD_inj h2, (show x = y from Prod.ext h3 h4)]
theorem vD_inj {V V' : Vl} (h : vD C V = vD C V') : V = V' := by
  unfold vD at h
  injection h with _ _ h
  injection h with h1 h2
  injection h2 with h2 _
  unfold nsD at h1
  injection h1 with h1
  injection h2 with h2
  obtain ⟨a, b⟩ := V
  obtain ⟨a', b'⟩ := V'
  have e1 : a = a' := map_str_inj h1
  have e2 : b = b' := map_pD_inj h2
  rw [e1, e2]
/-! ### reading_text -/
theorem ev_rt {m : Int} {ks : List L2.Key} {l : List D} (h : CallsD M tl σ B [vD C V, r] (Sp_reading_text C CB CR)) (pV : VOk V) (hR : okR C r) (hs : sq r = some [.int m, .dic ks l]) (hr : readD V r = true) (hm : m < 100) (E : XK) : Ev M (tl E) σ B (.str (rdS V m (lkI ks l))) := fun F H Q W k =>
  h F H E Q W fun vs H1 g1 hv => by
    have W1 := W.go g1
    refine ⟨M.S ++ F, vD C V, r, app_tr W1, by rw [hd_app]; exact hv, ⟨rfl, hR, fun _ => ⟨V, rfl, pV, fun m' u e _ => ?_⟩⟩, (fun z => by cases z), fun V' e => ?_⟩
    · rw [hs] at e
      injection e with e
      injection e with e _
      injection e with e
      omega
    · have := vD_inj e
      subst this
      refine ⟨fun z => by (rw [hr] at z; cases z), fun m' ks' l' e2 _ v H' g' dv => ?_⟩
      rw [hs] at e2
      injection e2 with e2
      injection e2 with e3 e4
      injection e3 with e3
      injection e4 with e4 _
      injection e4 with e4 e5
      subst e3; subst e4; subst e5
      rw [hd_app] at dv
      exact k v H' (g1.trans (go_app W1 g')) dv
theorem rais_rtR (h : CallsD M tl σ B [vD C V, r] (Sp_reading_text C CB CR)) (pV : VOk V) (hR : okR C r) (hr : readD V r = false) : Rais M tl σ B CR "reading" r := fun F0 H0 F H E Q R k =>
  h F H E Q R.w fun vs H1 g1 hv => by
    have W1 := R.w.go g1
    refine ⟨M.S ++ F, vD C V, r, app_tr W1, by rw [hd_app]; exact hv, ⟨rfl, hR, fun _ => ⟨V, rfl, pV, fun m' u e z => by (rw [hr] at z; cases z)⟩⟩, (fun z => by cases z), fun V' e => ?_⟩
    have := vD_inj e
    subst this
    refine ⟨fun _ dx y H' g' hx hy => ?_, fun m' ks' l' _ z => by (rw [hr] at z; cases z)⟩
    have g2 := g1.trans (go_app W1 g')
    rw [hd_app] at hy
    exact k dx y _ H' (R.ext g2) g2 (R.step g2) hx hy
/-! ### read_reading -/
theorem es_take {es : List (L2.Key × L2.V)} {ns : List Str} {nums : List Int} (h1 : es.map (·.1) = ns.map .inr) (h2 : es.map (·.2) = nums.map L2.V.int) : es.map (·.1) = (ns.take nums.length).map .inr := by
  have l1 := congrArg List.length h1
  have l2 := congrArg List.length h2
  rw [List.length_map, List.length_map] at l1 l2
  rw [h1, List.take_of_length_le (by omega)]
/-- what _law_met makes of it -/
def MetR (M : Md) (tl : XK → TE) (σ : L2.St) (B : Hp) (CT CR : Addr) (r : D) : Prop := (∃ d, r = .tup [.str "told", d] ∧ ∀ E, Ev M (tl E) σ B d) ∨ (∃ d, r = .tup [.str "line", d] ∧ Rais M tl σ B CT "line" d) ∨ ∃ d, r = .tup [.str "reading", d] ∧ Rais M tl σ B CR "reading" d
theorem met_rd (h : CallsD M tl σ B [vD C V, tx] (Sp_read_reading C CB CT)) (pV : VOk V) (h1 : okV C tx) (h2 : okS tx) : MetR M tl σ B CT CR (rsD V tx) := by
  by_cases hstr : isStrD tx = true
  · cases tx <;> first | (cases hstr; done) | skip
    rename_i z
    cases hp : parse V z with
    | inl k =>
      refine .inr (.inl ⟨.int (k : Nat), by show (match parse V z with | .inl k => lineD k | .inr (m, nums) => _) = _; rw [hp]; rfl, fun F0 H0 F H E Q R kk => h F H E Q R.w fun vs H1 g1 hv => ?_⟩)
      have W1 := R.w.go g1
      refine ⟨M.S ++ F, vD C V, .str z, app_tr W1, by rw [hd_app]; exact hv, ⟨rfl, h1, h2, fun _ => ⟨V, rfl, pV⟩⟩, (fun z => by cases z), (fun _ z => by cases z), fun V' s e es => ?_⟩
      have := vD_inj e
      subst this
      cases es
      refine ⟨fun k' e' dx y H' g' hx hy => ?_, fun m nums e' => by (rw [hp] at e'; cases e')⟩
      rw [hp] at e'
      cases e'
      have g2 := g1.trans (go_app W1 g')
      rw [hd_app] at hy
      exact kk dx y _ H' (R.ext g2) g2 (R.step g2) hx hy
    | inr q =>
      obtain ⟨m, nums⟩ := q
      refine .inl ⟨.tup [.int m, fD V nums], by show (match parse V z with | .inl k => lineD k | .inr (m, nums) => _) = _; rw [hp], fun E F H Q W kk => h F H E Q W fun vs H1 g1 hv => ?_⟩
      have W1 := W.go g1
      refine ⟨M.S ++ F, vD C V, .str z, app_tr W1, by rw [hd_app]; exact hv, ⟨rfl, h1, h2, fun _ => ⟨V, rfl, pV⟩⟩, (fun z => by cases z), (fun _ z => by cases z), fun V' s e es => ?_⟩
      have := vD_inj e
      subst this
      cases es
      refine ⟨fun k' e' => by (rw [hp] at e'; cases e'), fun m' nums' e' tp p es H' fp ft ntp g' htp hpp hk hv' => ?_⟩
      rw [hp] at e'
      cases e'
      have g2 := go_app W1 g'
      have dd : Dt (Hd M F H') (fD V nums) (.ref p) := by
        have := dic_mk (.inl (hd_some.mpr ⟨W1.nS fp, hpp⟩) : Rd (Hd M F H') p (.dK es)) (l := nums.map .int) (by rw [hv']; exact DtL.ofInts nums)
        rw [es_take hk hv'] at this
        exact this
      exact kk _ H' (g1.trans g2) (tup_mk (hd_some.mpr ⟨W1.nS ft, htp⟩) (DtL.cons rfl (DtL.cons dd DtL.nil)))
  · have hstr : isStrD tx = false := by simpa using hstr
    refine .inr (.inl ⟨.int (0 : Nat), by cases tx <;> first | rfl | (cases hstr; done), fun F0 H0 F H E Q R kk => h F H E Q R.w fun vs H1 g1 hv => ?_⟩)
    have W1 := R.w.go g1
    refine ⟨M.S ++ F, vD C V, tx, app_tr W1, by rw [hd_app]; exact hv, ⟨rfl, h1, h2, fun _ => ⟨V, rfl, pV⟩⟩, (fun z => by cases z), fun _ _ dx y H' g' hx hy => ?_, fun V' s e es => ?_⟩
    · have g2 := g1.trans (go_app W1 g')
      rw [hd_app] at hy
      exact kk dx y _ H' (R.ext g2) g2 (R.step g2) hx hy
    · rw [es] at hstr; cases hstr
theorem x_lammet {Q : VK} (R : Rn (DL.St s t n) F0 H0 F B H) (L : Lw T F B H) (n0 : NB (Hd (DL.St s t n) F0 H0)) (h0 : ∀ p ∈ T, p.1 ∉ F0) (h : ∀ B1, Le B B1 → MetR (DL.St s t n) tl σ B1 CT CR r)
    (k : ∀ v B' H', Le B B' → (∀ Bb, NB Bb → Ex Bb B → Ex Bb B') → (∀ b ∈ F, (∀ p ∈ T, p.1 ≠ b) → H' b = H b) → Rn (DL.St s t n) F0 H0 F B' H' → Lw T F B' H' → Dt B' r v → Q v H') : tLam T (TTmet CT CR) tl σ H Q := by
  obtain ⟨tb, go⟩ := lamK R L n0 h0
  refine ⟨tb, fun H1 e T1 => ?_⟩
  obtain ⟨B1, R1, L1, le, bb, own⟩ := go H1 e T1
  have fin : ∀ {w : Str} {d : D} {y : L2.V} {B2 H2 : Hp}, r = .tup [.str w, d] → Ex B1 B2 → Go (DL.St s t n) F H1 H2 → Rn (DL.St s t n) F0 H0 F B2 H2 → Dt B2 d y → ∀ p, H2 p = none → Q (.ref p) (upd H2 p (.tup [.str w, y])) := fun {w d y B2 H2} er e2 g2 R2 hy p hp => by
    have g3 := R2.w.new hp (.tup [.str w, y])
    refine k _ _ _ (le.trans (e2.trans (R2.ext g3)).le) (fun Bb nb eb => ((bb Bb nb eb).trans e2).trans (R2.ext g3)) (fun b hb hn => by rw [g3.x b hb, g2.x b hb, own b hb hn]) (R2.step g3) (L1.step (e2.trans (R2.ext g3)) (fun b hb => by rw [g3.x b hb, g2.x b hb])) ?_
    rw [er]
    exact tup_mk (hd_some.mpr ⟨R2.w.nS (Fr.of hp), upd_same⟩) (DtL.cons rfl (DtL.cons (hy.mono (R2.ext g3).le) DtL.nil))
  rcases h B1 le with ⟨d, er, hd⟩ | ⟨d, er, hd⟩ | ⟨d, er, hd⟩
  · exact hd (metX CT CR "line" "reading" Q) F H1 _ R1.w fun y H2 g2 dy => ⟨(show 2 ≤ sizeLine by decide), fin er (R1.ext g2) g2 (R1.step g2) dy⟩
  · exact hd F0 H0 F H1 (metX CT CR "line" "reading" Q) _ R1 fun dx y B2 H2 e2 g2 R2 hx hy => .inl ⟨rfl, dx, y, rfl, hx, fin er e2 g2 R2 hy⟩
  · exact hd F0 H0 F H1 (metX CT CR "line" "reading" Q) _ R1 fun dx y B2 H2 e2 g2 R2 hx hy => .inr ⟨rfl, dx, y, rfl, hx, fin er e2 g2 R2 hy⟩
/-- told = read_reading(..) -/
theorem r_told {i : Nat} {z : Str} {m : Int} {nums : List Int} {E : XK} (R : Rn M F0 H0 F B H) (h : CallsD M tl σ B [vD C V, .str z] (Sp_read_reading C CB CT)) (pV : VOk V) (h2 : okS (.str z)) (hp : parse V z = .inr (m, nums))
    (k : ∀ tp p es H', Go M F H H' → DL.Fr H p → H' tp = some (.tup [.int m, .ref p]) → H' p = some (.dK es) → Dt (Hd M F H') (.tup [.int m, fD V nums]) (.ref tp) → tz De (σ.set i (some (.ref tp))) H') : tSeq (tAsg (tl E) (gName i)) tz De σ H :=
  h F H E (fun v H' => tz De (σ.set i (some v)) H') R.w fun vs H1 g1 hv => by
    have W1 := R.w.go g1
    refine ⟨M.S ++ F, vD C V, .str z, app_tr W1, by rw [hd_app]; exact hv, ⟨rfl, trivial, h2, fun _ => ⟨V, rfl, pV⟩⟩, (fun z => by cases z), (fun _ z => by cases z), fun V' s e es => ?_⟩
    have := vD_inj e
    subst this
    cases es
    refine ⟨fun k' e' => by (rw [hp] at e'; cases e'), fun m' nums' e' tp p es H' fp ft ntp g' htp hpp hk hv' => ?_⟩
    rw [hp] at e'
    cases e'
    have g2 := go_app W1 g'
    have dd : Dt (Hd M F H') (fD V nums) (.ref p) := by
      have := dic_mk (.inl (hd_some.mpr ⟨W1.nS fp, hpp⟩) : Rd (Hd M F H') p (.dK es)) (l := nums.map .int) (by rw [hv']; exact DtL.ofInts nums)
      rw [es_take hk hv'] at this
      exact this
    exact k tp p es H' (g1.trans g2) (R.w.back g1 fp) htp hpp (tup_mk (hd_some.mpr ⟨W1.nS ft, htp⟩) (DtL.cons rfl (DtL.cons dd DtL.nil)))
end
end Pg

namespace Pg
open PySem PySem.Spec PyProof.Rows L2 DL RX RZ LiI LamX TA
abbrev N0 : Hp := fun _ => none
/-- what is known is kept, over lambdas too -/
structure Ux (B B' : Hp) : Prop where
  le : Le B B'
  bb : ∀ Bb, NB Bb → Ex Bb B → Ex Bb B'
theorem Ux.of {B B' : Hp} (e : Ex B B') : Ux B B' := ⟨e.le, fun _ _ eb => eb.trans e⟩
theorem Ux.trans {B B1 B2 : Hp} (a : Ux B B1) (b : Ux B1 B2) : Ux B B2 := ⟨a.le.trans b.le, fun Bb nb eb => b.bb Bb nb (a.bb Bb nb eb)⟩
theorem Ux.nt {B : Hp} : Ux B (DL.nt B) := ⟨nt_le, fun _ nb eb => ex_nt nb eb⟩
structure LK (T : List (Addr × Str)) (F : List Addr) (s t : Addr) (n : Nat) (B H : Hp) : Prop where
  R : Rn (DL.St s t n) [] N0 F B H
  L : Lw T F B H
section
variable {K : PySem.W.Frag} {C CB CP CT CR : Addr} {σ : L2.St} {B B' : Hp} {te ta tb tw : TE} {tr : TA} {V : Vl} {d r tx : D} {F : List Addr} {H H' : Hp} {De : Ends} {tz tu ty : TS} {tt : TT} {tl tl2 : XK → TE} {s t : Addr} {n m c i : Nat} {T : List (Addr × Str)} {P : D → Prop} {PI : List D → Prop}
theorem n00 : NB (Hd (DL.St s t n) [] N0) := fun b o h => by
  have := (hd_some.mp h).2
  cases this
theorem h00 : ∀ p ∈ T, p.1 ∉ ([] : List Addr) := fun p _ z => by cases z
theorem LK.nt (X : LK T F s t n B H) : LK T F s t n (DL.nt B) H := ⟨X.R.nt n00, X.L.nt⟩
theorem LK.go (X : LK T F s t n B H) (e : Ex B B') (k : ∀ b ∈ F, H' b = H b) (R' : Rn (DL.St s t m) [] N0 F B' H') : LK T F s t m B' H' := ⟨R', X.L.step e k⟩
theorem LK.up (X : LK T F s t n B H) (h : n ≤ m) : LK T F s t m B H := ⟨X.R.upS h, X.L⟩
theorem k_set (X : LK T F s t n B H) (h : Ev (DL.St s t n) te σ B d) (k : ∀ v B' H', Ex B B' → LK T F s t n B' H' → Dt B' d v → tz De (σ.set i (some v)) H') : tSeq (tAsg te (gName i)) tz De σ H :=
  r_set X.R h fun v B' H' e g R dv => k v B' H' e (X.go e (fun b hb => g.x b hb) R) dv
theorem k_setS (h : EvS s t c te σ B P) (X : LK T F s t n B H) (dj : Dj s t F) (hc : n + c ≤ 2 ^ 40) (k : ∀ v B' H' d, P d → Ex B B' → LK T F s t (n + c) B' H' → Dt B' d v → tz De (σ.set i (some v)) H') : tSeq (tAsg te (gName i)) tz De σ H :=
  r_setS h X.R dj hc fun v B' H' d pd e kk R dv => k v B' H' d pd e (X.go e kk R) dv
theorem k_if (X : LK T F s t n B H) (h : EvT (DL.St s t n) tt σ B false) (k : ∀ B' H', Ex B B' → LK T F s t n B' H' → ty { De with nx := tz De } σ H') : tSeq (tIfS tt tu ty) tz De σ H :=
  r_if (b := false) X.R h (fun z => by cases z) fun _ B' H' e g R => k B' H' e (X.go e (fun b hb => g.x b hb) R)
/-- a walk over a drawn list, its base without tables -/
theorem hiN (h : EvS s t c te σ B P) (hp : ∀ d, P d → ∃ l, d = .lst l ∧ PI l) (R : Rn (DL.St s t n) [] N0 F B H) (dj : Dj s t F) (hc : n + c ≤ 2 ^ 40) :
    ∀ (Rr : It → Hp → Prop), (∀ J ys B' H', PI ys → Ex B B' → (∀ b ∈ F, H' b = H b) → Rn (DL.St s t (n + c)) [] N0 F B' H' → WkD M0 (DL.nt B') J ys → Rr J H') → iList K te σ H Rr := fun Rr kk =>
  h n [] N0 F H _ hc dj R fun v B1 H1 d pd e1 k1 R1 dv => by
    obtain ⟨l, rfl, pl⟩ := hp d pd
    obtain ⟨a, vs, rfl, ha0, hl0⟩ := lst_inv dv
    have ha' : Hd (DL.St s t (n + c)) F H1 a = some (.lst vs) := R1.w.e a _ ha0 rfl
    obtain ⟨a', vs', ea, ha, hl⟩ := lst_inv (dv.mono (nt_le (B := B1)))
    cases ea
    have hv : vs' = vs := by
      have := (nt_some.mp ha).1
      rw [ha0] at this
      cases this
      rfl
    subst hv
    exact ⟨a, rfl, ⟨vs', SqL.of (hdL ha')⟩, kk _ l B1 H1 pl e1 k1 R1 ⟨_, _, by rw [← hl.length]; exact walk_list (xs := vs'), fun F' H' W' => SqL.of (hdL (W'.e a _ ha rfl)), fun F' i H' x H2 hi W' y => by
      obtain ⟨rfl, y⟩ := y
      obtain ⟨d, h1, h2⟩ := hl.get y
      exact ⟨Go.refl W'.i, d, h1, h2.mono W'.e.le⟩⟩⟩
/-- if not _law_are_refused(..): return False -/
theorem r_refd {E : XK} {x y : L2.V} (X : LK T F s t n B H) (dj : Dj s t F) (ne : s ≠ t) (h1 : σ[1]? = some (some (.ref s))) (h3 : σ[3]? = some (some x)) (h4 : σ[4]? = some (some y)) (dV : Dt B (lvD V) x) (dM : Dt B (vD C V) y) (pV : VOk V) (hc : n + 1 ≤ 2 ^ 40)
    (k : ∀ B' H', Ux B B' → LK T F s t (n + 1) B' H' → ty { De with nx := tz De } σ H') : tSeq (tIfS (tNot (tB (tCall (Sp_refused C T) [] E (tCons (tVar 1) (tCons (tVar 3) (tCons (tVar 4) tNil)))))) tu ty) tz De σ H :=
  ⟨_, h1, _, h3, _, h4, s, t, n, F, V, x, y, rfl, dj, ne, X.R.w.now, dV.mono X.R.w.e.le, dM.mono X.R.w.e.le, pV, X.L.up X.R.w.e, hc, fun H' B' bb le own W' L' => ⟨true, rfl, iteF (k B' H' ⟨X.R.w.e.le.trans le, fun Bb nb eb => bb Bb nb (eb.trans X.R.w.e)⟩ ⟨⟨W', (fun b o h => by
    have := (hd_some.mp h).2
    cases this), (fun b hb => by cases hb), (fun b hb => by cases hb)⟩, L'⟩)⟩⟩
/-- found = [met(..), None]; found[1] = met(..) -/
theorem r_found (hi : ∀ v, (σ.set i (some v))[i]? = some (some v)) (X : LK T F s t n B H) (h : ∀ B1, Le B B1 → MetR (DL.St s t n) tl σ B1 CT CR r) (h2 : ∀ v B1, Le B B1 → MetR (DL.St s t n) tl2 (σ.set i (some v)) B1 CT CR r)
    (k : ∀ v B' H', Ux B B' → LK T F s t n B' H' → Dt B' (.lst [r, r]) v → tz De (σ.set i (some v)) H') :
    tSeq (tAsg (tLst (tCons (tLam T (TTmet CT CR) tl) (tCons (tC .non) tNil))) (gName i)) (tSeq (tAsg (tLam T (TTmet CT CR) tl2) (gSub (tVar i) (tC (.int 1)) rSetL)) tz) De σ H := by
  refine i_setL (i_cons (x_lammet X.R X.L n00 h00 h fun v B1 H1 le1 bb1 own1 R1 L1 dv1 => ⟨show 2 ≤ sizeLine by decide, fun p hp => ?_⟩))
  have np : ∀ q ∈ T, q.1 ≠ p := L1.nT R1.w (Fr.of hp)
  obtain ⟨R3, e3, nF, nS⟩ := R1.own (R1.w.new hp (.lst [v, .non])) (Fr.of hp) upd_same rfl
  have L3 : Lw T (p :: F) _ (upd H1 p (.lst [v, .non])) := ((L1.step e3 (fun b hb => upd_ne (fun z => nF (by rw [← z]; exact hb)))).own upd_same rfl)
  have hp3 : upd H1 p (.lst [v, .non]) p = some (.lst [v, .non]) := upd_same
  have dv3 := dv1.mono e3.le
  have U3 : Ux B (Hd (DL.St s t n) (p :: F) (upd H1 p (.lst [v, .non]))) := (Ux.mk le1 bb1).trans (Ux.of e3)
  refine x_lammet R3 L3 n00 h00 (fun B1 le => h2 _ B1 (U3.le.trans le)) fun w B4 H4 le4 bb4 own4 R4 L4 dv4 => ?_
  have hp4 : H4 p = some (.lst [v, .non]) := by rw [own4 p List.mem_cons_self np]; exact hp3
  have dv34 := dv3.mono le4
  have R5 := R4.put (o := .lst [v, w]) List.mem_cons_self nS (fun z => by cases z) rfl
  have L5 := L4.put (o := .lst [v, w]) np rfl
  have hp5 : upd H4 p (.lst [v, w]) p = some (.lst [v, w]) := upd_same
  obtain ⟨R6, e6⟩ := R5.see (G := F) (fun b hb => List.mem_cons_of_mem _ hb) (fun b hb => by cases hb)
  have L6 := (L5.drop np).up e6
  have dl := lst_mk (hd_some.mpr ⟨⟨nS, nF⟩, hp5⟩ : Hd (DL.St s t n) F (upd H4 p (.lst [v, w])) p = some (.lst _)) (DtL.cons (dv34.mono e6.le) (DtL.cons (dv4.mono e6.le) DtL.nil))
  have fin := k _ _ _ ((U3.trans ⟨le4, bb4⟩).trans (Ux.of e6)) ⟨R6, L6⟩ dl
  exact ⟨_, hi _, p, [v, .non], 1, 1, rfl, rfl, hp4, rfl, fin⟩
end
end Pg

namespace Pg
open PySem PySem.Spec PyProof.Rows L2 DL RX RZ LiI LamX TA
abbrev rStrI : List L2.V → Hp → VK → Prop := fun xs H Q => ∃ i, xs = [.int i] ∧ i.natAbs.log2 < 1920 ∧ Q (.str (toString i)) H
section
variable {M : Md} {K : PySem.W.Frag} {C CB CP CT CR : Addr} {σ : L2.St} {B B' : Hp} {te ta tb tw tg tm tj : TE} {tr : TA} {V : Vl} {d r tx : D} {F0 F : List Addr} {H0 H H' : Hp} {De : Ends} {tz tu ty : TS} {tt : TT} {E : XK} {s t : Addr} {n c i : Nat} {m : Int} {g : Str → Int} {T : List (Addr × Str)} {P : D → Prop} {PI : List D → Prop}
theorem ev_rtP {ks : List L2.Key} {l : List D} (h : EvA M tr σ B [vD C V, r]) (pV : VOk V) (hR : okR C r) (hs : sq r = some [.int m, .dic ks l]) (hr : readD V r = true) (hm : m < 100) : Ev M (tCall (Sp_reading_text C CB CR) [] E tr) σ B (.str (rdS V m (lkI ks l))) := ev_rt (calls_pos h) pV hR hs hr hm E
theorem ev_rtK {ks : List L2.Key} {l : List D} (h : EvA M tr σ B [r, vD C V]) (pV : VOk V) (hR : okR C r) (hs : sq r = some [.int m, .dic ks l]) (hr : readD V r = true) (hm : m < 100) : Ev M (tCallS (Sp_reading_text C CB CR) E tr) σ B (.str (rdS V m (lkI ks l))) := ev_rt (calls_kw h) pV hR hs hr hm E
theorem rc_strI {k : Int} (h0 : 0 ≤ k) (h1 : k < 100) : RC M rStrI [.int k] (.str (strI k)) := fun F B H vs Q W e kk => by
  obtain ⟨y, rfl, hy⟩ := one_inv e
  refine ⟨k, by rw [(show y = .int k from hy)], ?_, kk _ H (Go.refl W.i) rfl⟩
  have : k.natAbs.log2 ≤ k.natAbs := Nat.log2_le_self _
  omega
theorem rv_adS {a b : Str} (h : a.length + b.length ≤ sizeLine) : RV M rAdS (.str a) (.str b) (.str (a ++ b)) := rv_fl rfl rfl rfl fun H Q q => ⟨a, b, rfl, rfl, h, q⟩
theorem ev_duerow {a : Str} (h1 : Ev M ta σ B (.str a)) (h2 : Ev M tg σ B (.int m)) (h0 : 0 ≤ m) (h10 : m < 10) (hl : a.length ≤ 8) :
    Ev M (tOp rAdS (tOp rAdS (tOp rAdS (tOp rAdS (tC (.str "weigh ")) ta) (tC (.str " "))) (tCB rStrI (tCons tg tNil))) (tC (.str "\n"))) σ B (.str (("weigh " : Str) ++ a ++ " " ++ strI m ++ "\n")) := by
  have hz : (100 : Nat) ≤ sizeLine := by decide
  have e1 : ("weigh " : Str).length = 6 := rfl
  have e2 : (" " : Str).length = 1 := rfl
  have e3 : ("\n" : Str).length = 1 := rfl
  have hm := (num_fact h0 h10).2.1
  refine ev_op (ev_op (ev_op (ev_op ev_str h1 (rv_adS ?_)) ev_str (rv_adS ?_)) (ev_cb (ea_cons h2 ea_nil) (rc_strI h0 (by omega))) (rv_adS ?_)) ev_str (rv_adS ?_)
  · omega
  · rw [cat_len]; omega
  · rw [cat_len, cat_len]; omega
  · rw [cat_len, cat_len, cat_len]; omega
theorem nm8 {s : Str} (h : isName s = true) : s.length ≤ 8 := by have := name_len h; omega
theorem row_len {a : Str} {k : Int} (h0 : 0 ≤ k) (h10 : k < 10) (hl : a.length ≤ 8) : (("weigh " : Str) ++ a ++ " " ++ strI k ++ "\n").length ≤ 20 := by
  have e1 : ("weigh " : Str).length = 6 := rfl
  have e2 : (" " : Str).length = 1 := rfl
  have e3 : ("\n" : Str).length = 1 := rfl
  have hm := (num_fact h0 h10).2.1
  rw [cat_len, cat_len, cat_len, cat_len]
  omega
theorem rows_len (ok : okRow V m g) : (Txt.join ("" : Str) (V.ns.map fun a => ("weigh " : Str) ++ a ++ " " ++ strI (g a) ++ "\n")).length ≤ V.ns.length * 20 := by
  rw [TL.join_eq]
  refine Nat.le_trans (join_e_len _ (k := 20) fun t ht => ?_) (by rw [List.length_map]; exact Nat.le_refl _)
  obtain ⟨a, ha, rfl⟩ := List.mem_map.mp ht
  have := ok.2.2.2 a ha
  have := ok.2.2.1
  exact row_len (by omega) (by omega) (nm8 (ok.1.nm a ha))
theorem rd_len2 (ok : okRow V m g) : (rdS V m g).length ≤ 20 + V.ns.length * 20 := by
  rw [← rd_due, cat_len, cat_len, cat_len]
  have e1 : ("reading " : Str).length = 8 := rfl
  have e3 : ("\n" : Str).length = 1 := rfl
  have h1 := ok.2.1
  have hm := (num_fact (show 0 ≤ m by omega) ok.2.2.1).2.1
  have := rows_len ok
  omega
theorem ev_due (ok : okRow V m g) (h0 : Ev M tm σ B (.int m)) (hj : Ev M tj σ B (.str (Txt.join ("" : Str) (V.ns.map fun a => ("weigh " : Str) ++ a ++ " " ++ strI (g a) ++ "\n")))) :
    Ev M (tOp rAdS (tOp rAdS (tOp rAdS (tC (.str "reading ")) (tCB rStrI (tCons tm tNil))) (tC (.str "\n"))) tj) σ B (.str (rdS V m g)) := by
  have hz : (1000 : Nat) ≤ sizeLine := by decide
  have e1 : ("reading " : Str).length = 8 := rfl
  have e3 : ("\n" : Str).length = 1 := rfl
  have h1 := ok.2.1
  have hm := (num_fact (show 0 ≤ m by omega) ok.2.2.1).2.1
  have hr := rows_len ok
  have hn := ok.1.n
  refine ev_is (ev_op (ev_op (ev_op ev_str (ev_cb (ea_cons h0 ea_nil) (rc_strI (by omega) (by have := ok.2.2.1; omega))) (rv_adS ?_)) ev_str (rv_adS ?_)) hj (rv_adS ?_)) (congrArg D.str rd_due)
  · omega
  · rw [cat_len]; omega
  · rw [cat_len, cat_len]; omega
/-- list(d) of a dict -/
theorem ef_listD {ns : List Str} {l : List D} (h : Ev M te σ B (.dic (ns.map .inr) l)) :
    EvF M (tCB (fun xs H Q => ∃ (a : Addr) (kvs : List (L2.Key × L2.V)), xs = [.ref a] ∧ Rd H a (.dK kvs) ∧ ∀ p, H p = none → Q (.ref p) (upd H p (.lst (kvs.map fun kv => kV kv.1)))) (tCons te tNil)) σ B (ns.map .str) := fun F H Q W k => h F H _ W fun v H1 g e => by
  obtain ⟨a, es, rfl, ha, hk, hd⟩ := dic_inv e
  refine ⟨a, es, rfl, hdR ha, fun p hp => ?_⟩
  have W1 := W.go g
  have ek : (es.map fun kv => kV kv.1) = ns.map L2.V.str := by
    have : (es.map fun kv => kV kv.1) = (es.map (·.1)).map kV := by rw [List.map_map]; rfl
    rw [this, hk, List.map_map]; rfl
  rw [ek]
  exact k p _ _ (W.back g (Fr.of hp)) (g.trans (W1.new hp _)) upd_same (DtL.ofStrs ns)
/-- told = read_reading(..); if ..: return False; told[1].clear() -/
theorem r_toldAll {z : Str} {nums : List Int} (hi : ∀ v, (σ.set i (some v))[i]? = some (some v)) (R : Rn M F0 H0 F B H) (h : EvA M tr σ B [vD C V, .str z]) (pV : VOk V) (h2 : okS (.str z)) (hp : parse V z = .inr (m, nums))
    (hx : ∀ De σ H, ty De σ H = De.nx σ H) (ht : ∀ v B1, Ex B B1 → Dt B1 (.tup [.int m, fD V nums]) v → EvT M tt (σ.set i (some v)) B1 false)
    (k : ∀ v B' H', Ex B B' → (∀ b ∈ F, H' b = H b) → Rn M F0 H0 F B' H' → tz De (σ.set i (some v)) H') :
    tSeq (tAsg (tCall (Sp_read_reading C CB CT) [] E tr) (gName i)) (tSeq (tIfS tt tu ty) (tSeq (tDrop (tBM0 K "dict" rDClear (tOp (rIx K) (tVar i) (tC (.int 1))))) tz)) De σ H := by
  refine r_told (tl := fun E => tCall (Sp_read_reading C CB CT) [] E tr) R (calls_pos h) pV h2 hp fun tp p es H1 g1 fp htp hpp dt => ?_
  have R1 := R.step g1
  have e1 := R.ext g1
  refine r_if (b := false) R1 (ht _ _ e1 dt) (fun z => by cases z) fun _ B2 H2 e2 g2 R2 => ?_
  rw [hx]
  have nSp := R.w.nS fp
  have nS : p ∉ M.S := nSp.1
  have nF : p ∉ F := nSp.2
  have hpH : H2 p = some (.dK es) := (hd_some.mp (g2.e p _ (hd_some.mpr ⟨⟨nS, nF⟩, hpp⟩) rfl)).2
  obtain ⟨a, vs, ea, ha, hv⟩ := tup_inv dt
  cases ea
  have htp1 := (hd_some.mp ha)
  have htpH : H2 tp = some (.tup [.int m, .ref p]) := (hd_some.mp (g2.e tp _ (hd_some.mpr ⟨htp1.1, htp⟩) rfl)).2
  obtain ⟨R3, e3, _, _⟩ := R.own (g1.trans g2) fp hpH rfl
  have nF0 : p ∉ F0 := fun z => nF (R.s _ z)
  have R4 := R3.put (o := .dK []) List.mem_cons_self nS nF0 rfl
  obtain ⟨R5, e5⟩ := R4.tell nF0
  have fin := k (.ref tp) _ _ (e3.trans e5) (fun b hb => by rw [upd_ne (fun z => nF (by rw [← z]; exact hb)), g2.x b hb, g1.x b hb]) R5
  refine ⟨_, hi _, .inr (.inl ⟨tp, [.int m, .ref p], 1, _, rfl, rfl, SqT.of htpH, rfl, ⟨.inr (.inr (.inl ⟨rfl, .inl ⟨_, hpH⟩⟩)), p, es, rfl, rfl, hpH, fin⟩⟩)⟩
/-- if not _law_is_reading(..) and not _law_same(_law_met(lambda: ..), ..): return False -/
theorem r_odd (X : LK T F s t n B H) {t1 : TE} {td : TE} {E' : XK} {b : Bool} {tl : XK → TE} (h1 : Ev (DL.St s t n) t1 σ B (.bl b)) (h2 : b = false → ∀ B1, Le B B1 → MetR (DL.St s t n) tl σ B1 CT CR r) (h3 : ∀ B1, Le B B1 → Ev (DL.St s t n) td σ B1 r) (sm : b = false → SmOk 8 r)
    (hx : ∀ De σ H, ty De σ H = De.nx σ H) (k : ∀ B' H', Ux B B' → LK T F s t n B' H' → De.nx σ H') :
    tIfS (tAnd (tNot (tB t1)) (tNot (tB (tCall (Sp_same 8) [] E' (tCons (tLam T (TTmet CT CR) tl) (tCons td tNil)))))) tu ty De σ H := by
  refine r_ev X.R h1 fun v B1 H1 e1 g1 R1 dv => ⟨b, dv, ?_⟩
  have X1 := X.go e1 (fun b hb => g1.x b hb) R1
  cases b with
  | true =>
    refine iteF (iteF ?_)
    rw [hx]
    exact k _ _ (Ux.of e1) X1
  | false =>
    refine iteT (x_lammet X1.R X1.L n00 h00 (fun B2 le => h2 rfl B2 (e1.le.trans le)) fun w B2 H2 le2 bb2 own2 R2 L2 dw => ?_)
    have U2 : Ux B B2 := (Ux.of e1).trans ⟨le2, bb2⟩
    refine r_ev R2 (h3 B2 U2.le) fun u B3 H3 e3 g3 R3 du => ?_
    refine ⟨(DL.St s t n).S ++ F, r, app_tr R3.w, by rw [hd_app]; exact DtL.cons ((dw.mono e3.le).mono R3.w.e.le) (DtL.cons (du.mono R3.w.e.le) DtL.nil), sm rfl, fun v' H4 g' dv' => ?_⟩
    have ev : v' = .bl true := dv'
    subst ev
    have g4 := go_app R3.w g'
    have e4 := R3.ext g4
    refine ⟨true, rfl, iteF ?_⟩
    rw [hx]
    exact k _ _ ((U2.trans (Ux.of e3)).trans (Ux.of e4)) ⟨R3.step g4, (L2.step e3 (fun b hb => g3.x b hb)).step e4 (fun b hb => g4.x b hb)⟩
end
end Pg

namespace Pg
open PySem PySem.Spec PyProof.Rows L2 DL RX RZ LiI LamX TA
section
variable {M : Md} {K : PySem.W.Frag} {C CB CP CT CR : Addr} {σ : L2.St} {B B' : Hp} {te ta tb t0 tv t7 : TE} {tr : TA} {V : Vl} {d r tx h : D} {E E' E2 E3 E4 : XK} {s t : Addr} {n c i : Nat} {m : Int} {g : Str → Int} {ms : List Str}
/-! what may be compared -/
theorem smok_pair {k : Nat} {a b : D} (ha : (fl a).isSome = true) (hb : (fl b).isSome = true) : SmOk (k + 2) (.tup [a, b]) := smok_two (smok_fl ha) (smok_fl hb)
theorem fl_kD (q : L2.Key) : (fl (kD q)).isSome = true := by cases q <;> rfl
theorem smok_nums {k : Nat} {ks : List L2.Key} {l : List D} (hk : ks.length ≤ 100) (hl : ∀ d ∈ l, (fl d).isSome = true) : SmOk (k + 4) (.dic ks l) := by
  refine smok_dic (smok_lst ?_ fun a ha => ?_)
  · unfold itemsD
    rw [List.length_map, List.length_zip]
    exact Nat.le_trans (Nat.min_le_left _ _) hk
  · unfold itemsD at ha
    obtain ⟨p, hp, rfl⟩ := List.mem_map.mp ha
    exact smok_pair (fl_kD _) (hl _ (List.of_mem_zip hp).2)
theorem smok_strs2 {z : Str} : SmOk 8 (.lst [.str z, .str z]) := smok_lst (by show 2 ≤ 100; omega) fun a ha => by
  simp only [List.mem_cons, List.not_mem_nil, or_false] at ha
  rcases ha with rfl | rfl <;> exact smok_fl rfl
theorem smok_fD (pV : VOk V) {nums : List Int} {k : Nat} : SmOk (k + 4) (fD V nums) := smok_nums (by
  have := pV.n
  have h2 : (V.ns.take nums.length).length ≤ V.ns.length := List.length_take_le' _ _
  rw [List.length_map]; omega) fun d hd => by
  obtain ⟨j, _, rfl⟩ := List.mem_map.mp hd
  rfl
theorem smok_told (pV : VOk V) {nums : List Int} : SmOk 8 (.tup [.int m, fD V nums]) := smok_two (smok_fl rfl) (smok_fD pV)
theorem smok_rs (pV : VOk V) : SmOk 8 (.lst [rsD V tx, rsD V tx]) := by
  have h : SmOk 7 (rsD V tx) := by
    have line : ∀ k, SmOk 7 (lineD k) := fun k => smok_pair rfl rfl
    cases tx <;> first | exact line 0 | skip
    rename_i z
    show SmOk 7 (match parse V z with | .inl k => lineD k | .inr (m, nums) => .tup [.str "told", .tup [.int m, fD V nums]])
    cases hp : parse V z with
    | inl k => exact line k
    | inr q => exact smok_two (smok_fl rfl) (smok_two (smok_fl rfl) (smok_fD pV))
  exact smok_lst (by show 2 ≤ 100; omega) fun a ha => by
    simp only [List.mem_cons, List.not_mem_nil, or_false] at ha
    rcases ha with rfl | rfl <;> exact h
/-! readings -/
theorem as_seq {De : Ends} {tu : TS} {H : Hp} (h : tSeq tu (fun De σ H => De.nx σ H) De σ H) : tu De σ H := h
abbrev dN (ms : List Str) (g : Str → Int) : D := .dic (ms.map .inr) (ms.map fun a => .int (g a))
theorem okT_dN (hn : ms.Nodup) : okT C (dN ms g) := by
  refine ⟨trivial, fun ks l e => ?_⟩
  cases e
  refine ⟨by rw [List.length_map, List.length_map], nodup_inr hn, fun u hu => ?_⟩
  obtain ⟨j, _, rfl⟩ := List.mem_map.mp hu
  trivial
theorem okT_nd (ho : okV C d) (h : ∀ ks l, d ≠ .dic ks l) : okT C d := ⟨ho, fun ks l e => absurd e (h ks l)⟩
theorem okR_sq {l : List D} (h : sq r = some l) (hl : ∀ x ∈ l, okT C x) : okR C r := ⟨okV_sq h, fun l' e => by rw [h] at e; cases e; exact hl⟩
theorem okR_rd (hn : ms.Nodup) (h : sq r = some [.int m, dN ms g]) : okR C r := okR_sq h fun x hx => by
  simp only [List.mem_cons, List.not_mem_nil, or_false] at hx
  rcases hx with rfl | rfl
  · exact okT_nd trivial fun ks l e => by cases e
  · exact okT_dN hn
theorem rc_dictP {gd : Str → D} (hn : ms.Nodup) : RC M (rDictP K) [.lst (ms.map fun a => D.tup [.str a, gd a])] (.dic (ms.map .inr) (ms.map gd)) := fun F B H vs Q W e k => by
  obtain ⟨v, rfl, dv⟩ := one_inv e
  exact (EvG.ev (eg_dictP (K := K) (te := fun _ H Q => Q v H) (σ := []) (B := Hd M F H) (fun F' H' Q' w k' => k' v H' (Go.refl w.i) (dv.mono w.e.le)) hn)) F H Q W.now k
theorem rv_cat {l q : List D} (hz : l.length + q.length ≤ sizeLine) : RV M rCat (.lst l) (.lst q) (.lst (l ++ q)) := fun F B H x y Q W e1 e2 k =>
  rvf_cat hz F B H x y Q W e1 e2 fun p vs H' hp g' e hd => k _ H' g'
    (show ∃ a vs, L2.V.ref p = .ref a ∧ Hd M F H' a = some (.lst vs) ∧ DtL (Hd M F H') (l ++ q) vs from
      ⟨p, vs, rfl, hd_some.mpr ⟨W.nS hp, e⟩, hd.mono (hd_sub fun b hb => List.mem_cons_of_mem _ hb).le⟩)
/-- the reading that is handed over, loosely -/
theorem es_handed (ne : s ≠ t) (h1 : σ[1]? = some (some (.ref s))) (pV : VOk V) (ht0 : ∀ n, Ev (DL.St s t n) t0 σ B (.int m)) (htv : ∀ n B', Ex B B' → Ev (DL.St s t n) tv σ B' (nsD V)) (hw : ∀ x, wipe ((wipe σ [7]).set 7 (some x)) [7] = wipe σ [7])
    (h7 : ∀ n a B' x, a ∈ V.ns → Ex B B' → Dt B' (.str a) x → Ev (DL.St s t n) t7 ((wipe σ [7]).set 7 (some x)) B' (.tup [.str a, .int (g a)])) :
    EvS s t 117 (tCall (Sp_loose C 2) [] E (tCons (tVar 1) (tCons (tTup (tCons t0 (tCons (tCB (rDictP K) (tCons (tLc (iList K (tCall Sp_mixed [] E2 (tCons (tVar 1) (tCons tv tNil)))) (gName 7) tYes t7 [7]) tNil)) tNil))) tNil))) σ B
      (fun d => ∃ ms : List Str, ms.Perm V.ns ∧ sq d = some [.int m, dN ms g]) := by
  have hn16 := pV.n
  have hsz : (1000 : Nat) < sizeLine := by decide
  have PD : D → Prop := fun d => ∃ ms : List Str, ms.Perm V.ns ∧ d = dN ms g
  refine EvS.le (c0 := 16 + 101) (es_loose (C := C) (c1 := 16) ne h1 (esa_one (EvS.le (c0 := 0 + (V.ns.length + 0 * 16)) (es_tup (esa_cons (es_ev ht0) (fun B1 e1 => esa_one (es_cb (P := fun d => ∃ ms : List Str, ms.Perm V.ns ∧ d = dN ms g)
    (PA := fun ds => ∃ d, ds = [d] ∧ ∃ ms : List Str, ms.Perm V.ns ∧ d = .lst (ms.map fun a => D.tup [.str a, .int (g a)])) (esa_one ((es_lc (c0 := V.ns.length) (c := 0) (m := 16) (PI := fun ys => ∃ ms : List Str, ms.Perm V.ns ∧ ys = ms.map .str) (PE := fun _ d y => ∃ a, d = .str a ∧ y = .tup [.str a, .int (g a)])
      (esi_list (P := fun d => ∃ l', d = .lst l' ∧ l'.Perm (V.ns.map .str)) (EvS.le (es_mixed0 (th := nsD V) (l := V.ns.map .str) ne h1 (fun n => htv n B1 e1) rfl (by rw [List.length_map]; omega)) (by rw [List.length_map]; exact Nat.le_refl _)) ?_) ?_ (by omega) hw ?_).imp ?_)) ?_))) ?_) (by omega))) ?_) (by omega)
  · rintro d ⟨l', rfl, pl⟩
    refine ⟨l', rfl, ?_⟩
    have hall : ∀ x ∈ l', ∃ a, x = D.str a := fun x hx => by
      obtain ⟨a, _, rfl⟩ := List.mem_map.mp (pl.mem_iff.mp hx)
      exact ⟨a, rfl⟩
    have : ∃ ms : List Str, l' = ms.map .str := by
      clear pl
      induction l' with
      | nil => exact ⟨[], rfl⟩
      | cons x l ih =>
        obtain ⟨a, rfl⟩ := hall x List.mem_cons_self
        obtain ⟨ms, rfl⟩ := ih fun y hy => hall y (List.mem_cons_of_mem _ hy)
        exact ⟨a :: ms, rfl⟩
    obtain ⟨ms, rfl⟩ := this
    refine ⟨ms, ?_, rfl⟩
    have h2 := pl.map (fun d : D => match d with | .str a => a | _ => ("" : Str))
    rw [List.map_map, List.map_map] at h2
    have e : ∀ l : List Str, l.map ((fun d : D => match d with | .str a => a | _ => ("" : Str)) ∘ D.str) = l := fun l => List.map_id l
    rw [e, e] at h2
    exact h2
  · rintro ys ⟨ms, pm, rfl⟩
    rw [List.length_map, pm.length_eq]; omega
  · rintro ys ⟨ms, pm, rfl⟩ d hd B2 x e2 dx
    obtain ⟨a, ha, rfl⟩ := List.mem_map.mp hd
    exact (es_ev fun n => h7 n a B2 x (pm.mem_iff.mp ha) (e1.trans e2) dx).imp fun d e => ⟨a, rfl, e⟩
  · rintro d ⟨ys, ds, ⟨ms, pm, rfl⟩, rfl, hl, hPE⟩
    refine ⟨ms, pm, congrArg D.lst (list_eq_of (by rw [hl, List.length_map, List.length_map]) fun j a b ha hb => ?_)⟩
    rw [List.getElem?_map] at ha
    obtain ⟨x, hx, rfl⟩ := Option.map_eq_some_iff.mp ha
    obtain ⟨a', ea, eb⟩ := hPE j (.str x) b (by rw [List.getElem?_map, hx]; rfl) hb
    cases ea
    exact eb
  · rintro ds ⟨d, rfl, ms, pm, rfl⟩
    exact ⟨dN ms g, ⟨ms, pm, rfl⟩, fun M => rc_dictP (pm.nodup_iff.mpr pV.nd)⟩
  · rintro ds ⟨d, r, rfl, _, d2, rfl, _⟩
    show 2 ≤ sizeLine
    omega
  · rintro ds ⟨d, rfl, ds, rfl, d1, r, rfl, rfl, d2, rfl, ms, pm, rfl⟩
    have hnd : ms.Nodup := pm.nodup_iff.mpr pV.nd
    refine ⟨_, rfl, ⟨trivial, fun l e => ?_⟩, fun y hy => ⟨ms, pm, ?_⟩⟩
    · cases e
      refine ⟨by show 2 ≤ 100; omega, fun a ha => ?_⟩
      simp only [List.mem_cons, List.not_mem_nil, or_false] at ha
      rcases ha with rfl | rfl
      · exact deep_flat rfl (show okV C (.int m) from trivial) 1
      · exact deep_flat rfl (show okV C (dN ms g) from trivial) 1
    · obtain ⟨l', h2, hl, hP⟩ := loos_sq (l := [.int m, dN ms g]) rfl hy
      rw [h2]
      refine congrArg some (list_eq_of hl fun j a b ha hb => ?_)
      have hm := List.mem_of_getElem? ha
      simp only [List.mem_cons, List.not_mem_nil, or_false] at hm
      rcases hm with rfl | rfl <;> exact loos_flat rfl (hP j _ _ ha hb)
/-! the texts -/
def TxOk (C : Addr) (d : D) : Prop := okV C d ∧ okS d
theorem tx_str {z : Str} (h : z.length ≤ 640) (a : Asc z) : TxOk C (.str z) := ⟨trivial, fun s e => by cases e; exact ⟨h, a⟩⟩
theorem tx_no (h : okV C d) (n : ∀ s, d ≠ .str s) : TxOk C d := ⟨h, fun s e => absurd e (n s)⟩
def TxL (C : Addr) (k : Nat) (d : D) : Prop := ∃ l, d = .lst l ∧ l.length ≤ k ∧ ∀ x ∈ l, TxOk C x
theorem tx_cat {k j : Nat} {x y : D} (hk : k + j ≤ 100) (hx : TxL C k x) (hy : TxL C j y) : ∃ z, TxL C (k + j) z ∧ ∀ M, RV M rCat x y z := by
  obtain ⟨l, rfl, h1, h2⟩ := hx
  obtain ⟨q, rfl, h3, h4⟩ := hy
  have hsz : (1000 : Nat) < sizeLine := by decide
  exact ⟨.lst (l ++ q), ⟨_, rfl, by rw [List.length_append]; omega, fun x hx => (List.mem_append.mp hx).elim (h2 x) (h4 x)⟩, fun M => rv_cat (by omega)⟩
def bentOk (k : Nat) (d : D) : Prop := ∃ y : Str, d = .str y ∧ y.length ≤ k ∧ Asc y
theorem es_bent {z : Str} (ne : s ≠ t) (h1 : σ[1]? = some (some (.ref s))) (hz : z.length ≤ 130) (hA : Asc z) (h : ∀ n, Ev (DL.St s t n) te σ B (.str z)) : EvS s t 10 (tCall Sp_bent [] E (tCons (tVar 1) (tCons te tNil))) σ B (bentOk 280) :=
  EvS.le (EvS.imp (es_call0 (cost := fun _ => 10) (inp := fun z => [.str z]) (pre := fun z : Str => z.length ≤ 300 ∧ Asc z) (post := fun z d => ∃ y : Str, d = .str y ∧ y.length ≤ 2 * z.length + 16 ∧ Asc y) z ne h1 (fun n => ea_cons (h n) ea_nil) ⟨by omega, hA⟩) fun d ⟨y, e, hl, ha⟩ => ⟨y, e, by omega, ha⟩) (Nat.le_refl _)
theorem es_bent2 {z : Str} (ne : s ≠ t) (h1 : σ[1]? = some (some (.ref s))) (hz : z.length ≤ 130) (hA : Asc z) (h : ∀ n, Ev (DL.St s t n) te σ B (.str z)) : EvS s t 20 (tCall Sp_bent [] E (tCons (tVar 1) (tCons (tCall Sp_bent [] E2 (tCons (tVar 1) (tCons te tNil))) tNil))) σ B (bentOk 580) :=
  es_call (cost := fun _ => 10) (inp := fun z => [.str z]) (pre := fun z : Str => z.length ≤ 300 ∧ Asc z) (post := fun z d => ∃ y : Str, d = .str y ∧ y.length ≤ 2 * z.length + 16 ∧ Asc y) (c1 := 10) (c2 := 10) ne h1 (esa_one (es_bent ne h1 hz hA h)) fun ds ⟨d, e, y, ed, hl, ha⟩ =>
    ⟨y, by rw [e, ed], ⟨by omega, ha⟩, Nat.le_refl _, fun d ⟨y', e', hl', ha'⟩ => ⟨y', e', by omega, ha'⟩⟩
theorem bent_tx {k : Nat} (hk : k ≤ 640) (h : bentOk k d) : TxOk C d := by
  obtain ⟨y, rfl, hl, ha⟩ := h
  exact tx_str (by omega) ha
theorem es_texts {z : Str} (ne : s ≠ t) (h1 : σ[1]? = some (some (.ref s))) (h6 : ∀ n B', Ex B B' → Ev (DL.St s t n) (tVar 6) σ B' (.str z)) (hz : z.length ≤ 130) (hA : Asc z) (hw : ∀ x, wipe ((wipe σ [12]).set 12 (some x)) [12] = wipe σ [12]) (hw1 : ∀ x, ((wipe σ [12]).set 12 (some x))[1]? = some (some (.ref s))) (hw6 : ∀ n B' x, Ex B B' → Ev (DL.St s t n) (tVar 6) ((wipe σ [12]).set 12 (some x)) B' (.str z)) :
    EvS s t 200 (tOp rCat (tOp rCat (tLst (tCons (tVar 6) (tCons (tC (.str "")) (tCons (tCall Sp_pick [] E (tCons (tVar 1) (tCons (tLst (tCons (tC .non) (tCons (tC (.int 5)) (tCons (tLst (tCons (tVar 6) tNil)) (tCons tDNewK tNil))))) tNil))) tNil))))
      (tLc (iRng1 (tCons (tC (.int 8)) tNil)) (gName 12) tYes (tCall Sp_bent [] E2 (tCons (tVar 1) (tCons (tVar 6) tNil))) [12])) (tLst (tCons (tCall Sp_bent [] E3 (tCons (tVar 1) (tCons (tCall Sp_bent [] E4 (tCons (tVar 1) (tCons (tVar 6) tNil))) tNil))) tNil))) σ B (TxL C 12) := by
  have hsz : (1000 : Nat) < sizeLine := by decide
  refine EvS.le (c0 := ((0 + (0 + 1)) + (0 + 10 * 8)) + 20) (es_op (P1 := TxL C 11) (P2 := TxL C 1) (es_op (P1 := TxL C 3) (P2 := TxL C 8) ((es_lst (esa_cons (es_ev fun n => h6 n B (Ex.refl _)) fun B1 e1 => esa_cons (es_ev (d := .str "") fun n => ev_str) fun B2 e2 => esa_one (es_pick0 (th := .lst [.non, .int 5, .lst [.str z], .dic [] []]) (l := [.non, .int 5, .lst [.str z], .dic [] []]) ne h1
    (fun n => EvF.ev (ef_lst (ea_cons ev_non (ea_cons ev_int (ea_cons (EvF.ev (ef_lst (ea_cons (h6 n B2 (e1.trans e2)) ea_nil) (show 1 ≤ sizeLine by omega))) (ea_cons (EvG.ev eg_dict0) ea_nil)))) (show 4 ≤ sizeLine by omega))) rfl (by show 1 ≤ 4; omega) (by show 4 ≤ 1000; omega))) ?_).imp ?_) (fun B1 e1 => (es_lc (c0 := 0) (c := 10) (m := 8) (PI := fun ys => ys = rangeD 0 8) (PE := fun _ _ y => bentOk 280 y)
      (esi_ei (ei_rng1 (n := 8) (ea_cons ev_int ea_nil) (by decide) (by decide))) ?_ (by omega) hw ?_).imp ?_) (fun x y hx hy => tx_cat (by omega) hx hy)) (fun B1 e1 => (es_lst (esa_one (es_bent2 ne h1 hz hA fun n => h6 n B1 e1)) ?_).imp ?_) (fun x y hx hy => tx_cat (by omega) hx hy)) (by omega)
  · rintro ds ⟨d, r, rfl, _, d2, r2, rfl, _, d3, rfl, _⟩
    show 3 ≤ sizeLine
    omega
  · rintro d ⟨ds, rfl, d1, r, rfl, rfl, d2, r2, rfl, rfl, d3, rfl, hd3⟩
    refine ⟨_, rfl, by show 3 ≤ 3; omega, fun x hx => ?_⟩
    simp only [List.mem_cons, List.not_mem_nil, or_false] at hx hd3
    rcases hx with rfl | rfl | rfl
    · exact tx_str (by omega) hA
    · exact tx_str (by decide) (fun c hc => by cases hc)
    · rcases hd3 with rfl | rfl | rfl | rfl
      · exact tx_no trivial fun s e => by cases e
      · exact tx_no trivial fun s e => by cases e
      · exact tx_no trivial fun s e => by cases e
      · exact tx_no trivial fun s e => by cases e
  · rintro ys rfl
    rw [rangeD_length]
    exact Nat.le_refl 8
  · rintro ys rfl d hd B2 x e2 dx
    exact es_bent ne (hw1 x) hz hA fun n => hw6 n B2 x (e1.trans e2)
  · rintro d ⟨ys, ds, rfl, rfl, hl, hPE⟩
    rw [rangeD_length] at hl
    refine ⟨_, rfl, by omega, fun x hx => ?_⟩
    obtain ⟨q, hq, eq⟩ := List.mem_iff_getElem.mp hx
    exact bent_tx (by omega) (hPE q _ x (List.getElem?_eq_getElem (by rw [rangeD_length]; omega)) (by rw [List.getElem?_eq_getElem hq, eq]))
  · rintro ds ⟨d, rfl, _⟩
    show 1 ≤ sizeLine
    omega
  · rintro d ⟨ds, rfl, d, rfl, hb⟩
    refine ⟨_, rfl, Nat.le_refl _, fun x hx => ?_⟩
    rw [List.mem_singleton] at hx
    subst hx
    exact bent_tx (by omega) hb
theorem cop_rd (pV : VOk V) : CopOk C 2 (rdgD V m g) := by
  refine ⟨trivial, fun l e => ?_, fun ks l e => by cases e⟩
  cases e
  refine ⟨by show 2 ≤ 100; omega, fun a ha => ?_⟩
  simp only [List.mem_cons, List.not_mem_nil, or_false] at ha
  rcases ha with rfl | rfl
  · exact ⟨trivial, (fun l e => by cases e), fun ks l e => by cases e⟩
  · exact ⟨trivial, (fun l e => by cases e), fun ks l e => by cases e; exact ⟨V.ns, fun a => .int (g a), rfl, rfl, pV.nd, pV.n, fun a _ => ⟨rfl, rfl, trivial⟩⟩⟩
/-! what is no reading -/
def oddR (V : Vl) (m : Int) (g : Str → Int) : List D := [.non, .tup [.int 1, dN V.ns g], .tup [.int m, .non], dN V.ns g, .tup [.bl true, dN V.ns g], .tup [.int m, .dic [] []], .str "reading"]
theorem oddR_ok (pV : VOk V) (h : d ∈ oddR V m g) : okR C d ∧ SmOk 8 (.tup [.str "reading", d]) := by
  have hd : SmOk 4 (dN V.ns g) := smok_nums (by have := pV.n; rw [List.length_map]; omega) fun x hx => by
    obtain ⟨j, _, rfl⟩ := List.mem_map.mp hx
    rfl
  have hl : okT C (dN V.ns g) := okT_dN pV.nd
  have fx : ∀ {x : D}, SmOk 7 x → SmOk 8 (.tup [.str "reading", x]) := fun h => smok_two (smok_fl rfl) h
  have two : ∀ {a b : D}, okT C a → okT C b → okR C (.tup [a, b]) := fun ha hb => okR_sq rfl fun x hx => by
    simp only [List.mem_cons, List.not_mem_nil, or_false] at hx
    rcases hx with rfl | rfl
    · exact ha
    · exact hb
  have ti : ∀ k, okT C (.int k) := fun k => okT_nd trivial fun ks l e => by cases e
  unfold oddR at h
  simp only [List.mem_cons, List.not_mem_nil, or_false] at h
  rcases h with rfl | rfl | rfl | rfl | rfl | rfl | rfl
  · exact ⟨⟨trivial, fun l e => by cases e⟩, fx (smok_fl rfl)⟩
  · exact ⟨two (ti 1) hl, fx (smok_two (smok_fl rfl) (smok_up hd 2))⟩
  · exact ⟨two (ti m) (okT_nd trivial fun ks l e => by cases e), fx (smok_pair rfl rfl)⟩
  · exact ⟨⟨trivial, fun l e => by cases e⟩, fx (smok_up hd 3)⟩
  · exact ⟨two (okT_nd trivial fun ks l e => by cases e) hl, fx (smok_two (smok_fl rfl) (smok_up hd 2))⟩
  · exact ⟨two (ti m) ⟨trivial, fun ks l e => by cases e; exact ⟨rfl, List.nodup_nil, fun x hx => by cases hx⟩⟩, fx (smok_two (smok_fl rfl) (smok_nums (k := 2) (by show 0 ≤ 100; omega) fun x hx => by cases hx))⟩
  · exact ⟨⟨trivial, fun l e => by cases e⟩, fx (smok_fl rfl)⟩
end
end Pg

namespace Pg
open PySem PySem.Spec PyProof.Rows L2 DL RX RZ LiI LamX TA
def Sp_stream2 (K : PySem.W.Frag) : Sp := fun vs H Q _ => ∃ (a : Addr) (ns : List Int), vs = [.ref a] ∧ SqL K H a (ns.map L2.V.int) ∧ ∀ s t H', H s = none → H t = none → s ≠ t → (∀ b o, H b = some o → H' b = some o) → StI s t 0 H' → Q (.ref s) H'
def Sp_law (K : PySem.W.Frag) (T : List (Addr × Str)) : Sp := fun vs H Q _ => ∃ (a : Addr) (ns : List Int), vs = [.ref a] ∧ SqL K H a (ns.map L2.V.int) ∧ (∀ p ∈ T, H p.1 = some (.tbl #[])) ∧ ∀ H', Q (.bl true) H'
theorem spStream2_len {K : PySem.W.Frag} : ∀ (vs : List L2.V) (H : Hp) (Q : VK) (E : XK), Sp_stream2 K vs H Q E → vs.length = 1 := fun vs H Q E ⟨_, _, e, _⟩ => by rw [e]; rfl
theorem spLaw_len {K : PySem.W.Frag} {T : List (Addr × Str)} : ∀ (vs : List L2.V) (H : Hp) (Q : VK) (E : XK), Sp_law K T vs H Q E → vs.length = 1 := fun vs H Q E ⟨_, _, e, _⟩ => by rw [e]; rfl
section
variable {P : Program} {w : World} {K : PySem.W.Frag} {mg : Str → Option Value} {base : Heap} {f C : Addr} {fd : FuncData} {M : Md} {σ : L2.St} {B : Hp} {te ta tb : TE} {V : Vl} {d : D} {F0 F : List Addr} {H0 H : Hp} {De : Ends} {tz : TS}
theorem ok_stream2 (F : Fun K "_law_stream" "_law_stream" s_law_stream f fd) (N : Bn mg) : FnOk P w K mg base CX0 1 f fd ["script"] (Sp_stream2 K) := by
  refine F.ok sc_law_stream spStream2_len (fun cdv A outer s H vs Q E hr h => ?_)
  obtain ⟨a, ns, rfl, hS, k⟩ := h
  refine ⟨_, pss_one (ps_ret (pe_lst (pa_cons (pe_callTy call_list_of (by rfl) N.list (by decide +kernel) (pa_cons (pv 0) pa_nil)) (pa_cons pe_int (pa_cons pe_int (pa_cons pe_int pa_nil)))))), ?_⟩
  refine ⟨_, rfl, a, _, rfl, .inl hS, fun t ht => ⟨(show 4 ≤ sizeLine by decide), fun s hs => ?_⟩⟩
  have hst : s ≠ t := fun z => by rw [z, upd_same] at hs; cases hs
  rw [upd_ne hst] at hs
  refine k s t _ hs ht hst (fun b o h => ?_) ⟨ns, 0, 0, 19, upd_same, by rw [upd_ne (fun z => hst z.symm), upd_same], Int.le_refl 0, Nat.le_refl 0, by decide, by decide⟩
  rw [upd_ne (ne_of_none h hs), upd_ne (ne_of_none h ht)]
  exact h
abbrev N_law : List Str := ["script", "stream", "turn", "village", "made", "reading", "due", "house", "handed", "whole", "told", "texts", "k", "text", "found", "wanted", "odd"]
abbrev q_law : Str := (envOfC "law" (defScope s_law) 0 0 .none).qual ++ "<lambda>"
theorem ok_law {c CB CP CT CR P1 aM a1 a2 a3 a4 a5 a6 a7 a8 a9 a10 a11 a12 a13 a14 a15 a16 : Addr} {fdM : FuncData} {T : List (Addr × Str)} (F : FunC K "law" "law" s_law f fd c) (N : Bn mg) (v : VF K C)
    (TB : TabB base mg c P1) (hT : (P1, q_law) ∈ T) (hu : ∀ p ∈ T, p.1 = P1 → p.2 = q_law)
    (FM : Fun K "_law_met" "_law_met" s_law_met aM fdM) (gMt : mg "_law_met" = some (.ref aM)) (bM : Binds K fdM ["ask"] []) (mT : mg "BadText" = some (.ref CT)) (mR : mg "BadReading" = some (.ref CR)) (EX : Exc2 K CT CR "line" "reading")
    (gSt : mg "_law_stream" = some (.ref a1)) (Ost : OkF P w K mg base 1 a1 ["script"] (Sp_stream2 K)) (gPk : mg "_law_pick" = some (.ref a2)) (Opk : OkF P w K mg base 2 a2 ["stream", "things"] Sp_pick)
    (gVl : mg "_law_village" = some (.ref a3)) (Ovl : OkF P w K mg base 4 a3 ["stream", "houses", "lanes"] Sp_village) (gMd : mg "_law_made" = some (.ref a4)) (Omd : OkF P w K mg base 6 a4 ["stream", "village"] (Sp_made C))
    (gRf : mg "_law_are_refused" = some (.ref a5)) (Orf : OkF P w K mg base 10 a5 ["stream", "village", "made"] (Sp_refused C T)) (gRg : mg "_law_readings" = some (.ref a6)) (Org : OkF P w K mg base 3 a6 ["stream", "village"] Sp_readings)
    (gLo : mg "_law_loose" = some (.ref a7)) (Olo : OkF P w K mg base 4 a7 ["stream", "thing"] (Sp_loose C 2)) (gMx : mg "_law_mixed" = some (.ref a8)) (Omx : OkF P w K mg base 2 a8 ["stream", "things"] Sp_mixed)
    (gSm : mg "_law_same" = some (.ref a9)) (Osm : OkF P w K mg base 9 a9 ["found", "due"] (Sp_same 8)) (gCp : mg "_law_copied" = some (.ref a10)) (Ocp : OkF P w K mg base 4 a10 ["thing"] (Sp_copied C 2))
    (gRt : mg "reading_text" = some (.ref a11)) (Ort : OkX P w K mg base 5 a11 ["village", "reading"] (Sp_reading_text C CB CR)) (OrtK : OkXK P w K mg base 5 a11 ["village", "reading"] ["reading", "village"] (Sp_reading_text C CB CR))
    (gRd : mg "read_reading" = some (.ref a12)) (Ord : OkX P w K mg base 5 a12 ["village", "text"] (Sp_read_reading C CB CT)) (OrdK : OkXK P w K mg base 5 a12 ["village", "text"] ["text", "village"] (Sp_read_reading C CB CT))
    (gBt : mg "_law_bent" = some (.ref a13)) (Obt : OkF P w K mg base 3 a13 ["stream", "text"] Sp_bent) (gRs : mg "_law_read_so" = some (.ref a14)) (Ors : OkF P w K mg base 3 a14 ["village", "text"] (Sp_read_so C))
    (gIr : mg "_law_is_reading" = some (.ref a15)) (Oir : OkF P w K mg base 2 a15 ["village", "thing"] (Sp_law_is_reading C)) : FnOk P w K mg base CX0 11 f fd ["script"] (Sp_law K T) := by
  refine F.ok sc_law spLaw_len (fun A outer s H vs Q E hr h => ?_)
  obtain ⟨a, ns, rfl, hS, hTb, kf⟩ := h
  obtain ⟨ocM, odM, kVM, docM, pmM, anM, cdvM, ctM, oslM, rfl, lkM, hcM⟩ := FM.ex
  have hr7 := hr.mono (show 7 ≤ 10 by decide)
  have hu0 := hu_of hr
  refine ⟨_, pss_cons (ps_set (i := 1) sc_law.nd rfl (Or.inr rfl) (pe_c Ost (hr.mono (by decide)) gSt (pa_cons (pv 0) pa_nil)))
    (pss_cons (ps_for PassesOwn.never (by rfl) (pi_range1 (by rfl) N.range (pa_cons pe_int pa_nil)) (pg_name (i := 2) sc_law.nd rfl (Or.inl rfl))
      (pss_cons (ps_set (i := 3) sc_law.nd rfl (Or.inl rfl) (pe_c Ovl (hr.mono (by decide)) gVl (pa_cons (pv 1) (pa_cons (pe_c Opk (hr.mono (by decide)) gPk (pa_cons (pv 1) (pa_cons (pe_lst (pa_cons pe_int (pa_cons pe_int (pa_cons pe_int pa_nil)))) pa_nil))) (pa_cons pe_int pa_nil)))))
      (pss_cons (ps_set (i := 4) sc_law.nd rfl (Or.inr rfl) (pe_c Omd (hr.mono (by decide)) gMd (pa_cons (pv 1) (pa_cons (pv 3) pa_nil))))
      (pss_cons (ps_if (pt_not (pt_val (pe_c Orf (hr.mono (by decide)) gRf (pa_cons (pv 1) (pa_cons (pv 3) (pa_cons (pv 4) pa_nil)))))) (pss_one (ps_ret pe_bl)) pss_nil)
      (pss_one (ps_for PassesOwn.never (by rfl) (pi_list (pe_c Org (hr.mono (by decide)) gRg (pa_cons (pv 1) (pa_cons (pv 3) pa_nil)))) (pg_name (i := 5) sc_law.nd rfl (Or.inr rfl))
        (pss_cons (ps_set (i := 6) sc_law.nd rfl (Or.inr rfl) (pe_op op_add_str (pe_op op_add_str (pe_op op_add_str pe_str (pe_callTy call_str_int (by rfl) N.str (by decide +kernel) (pa_cons (pe_ix ix_seq (pv 5) pe_int (fun _ _ => rfl)) pa_nil))) pe_str) (pe_join pe_str (pe_lc (te := tOp rAdS (tOp rAdS (tOp rAdS (tOp rAdS (tC (.str "weigh ")) (tVar 7)) (tC (.str " "))) (tCB rStrI (tCons (tDGet (tOp (rIx K) (tVar 5) (tC (.int 1))) (tVar 7)) tNil))) (tC (.str "\n"))) (own := [("house", 7)]) (g := gName 7) (by rfl) sc_law.nd (pi_list (pe_ix ix_seq (pv 3) pe_int (fun _ _ => rfl))) (blkOk_by (own := [("house", 7)]) (N := N_law) (sc := defScope s_law) (by decide +kernel)) (fun _ _ _ _ _ => pg_name (i := 7) sc_law.nd rfl (Or.inl rfl)) (fun _ _ _ _ _ => pts_nil) (fun _ _ _ _ _ => (by exact (pe_op op_add_str (pe_op op_add_str (pe_op op_add_str (pe_op op_add_str pe_str (pv 7)) pe_str) (pe_callTy call_str_int (by rfl) N.str (by decide +kernel) (pa_cons (pe_dget hu0 (pe_ix ix_seq (pv 5) pe_int (fun _ _ => rfl)) (pv 7) (fun _ _ => rfl)) pa_nil))) pe_str)))))))
        (pss_cons (ps_set (i := 8) sc_law.nd rfl (Or.inl rfl) (pe_c Olo (hr.mono (by decide)) gLo (pa_cons (pv 1) (pa_cons (pe_tup (pa_cons (pe_ix ix_seq (pv 5) pe_int (fun _ _ => rfl)) (pa_cons (pe_callTy (call_dictP rfl) (by rfl) N.dict (by decide +kernel) (pa_cons (pe_lc (te := tTup (tCons (tVar 7) (tCons (tDGet (tOp (rIx K) (tVar 5) (tC (.int 1))) (tVar 7)) tNil))) (own := [("house", 7)]) (g := gName 7) (by rfl) sc_law.nd (pi_list (pe_c Omx (hr.mono (by decide)) gMx (pa_cons (pv 1) (pa_cons (pe_ix ix_seq (pv 3) pe_int (fun _ _ => rfl)) pa_nil)))) (blkOk_by (own := [("house", 7)]) (N := N_law) (sc := defScope s_law) (by decide +kernel)) (fun _ _ _ _ _ => pg_name (i := 7) sc_law.nd rfl (Or.inl rfl)) (fun _ _ _ _ _ => pts_nil) (fun _ _ _ _ _ => (by exact (pe_tup (pa_cons (pv 7) (pa_cons (pe_dget hu0 (pe_ix ix_seq (pv 5) pe_int (fun _ _ => rfl)) (pv 7) (fun _ _ => rfl)) pa_nil)))))) pa_nil)) pa_nil))) pa_nil))))
        (pss_cons (ps_if (pt_not (pt_val (pe_c Osm (hr.mono (by decide)) gSm (pa_cons (pe_lst (pa_cons (pe_cx (E := fun _ _ _ => False) Ort (hr.mono (by decide)) gRt L2.takes0 (fun _ _ _ _ h => h) (pa_cons (pv 4) (pa_cons (pv 8) pa_nil))) (pa_cons (pe_cxk (E := fun _ _ _ => False) OrtK (hr.mono (by decide)) gRt L2.takes0 (fun _ _ _ _ h => h) (pk_cons (pe_c Ocp (hr.mono (by decide)) gCp (pa_cons (pv 5) pa_nil)) (pk_cons (pv 4) pk_nil))) pa_nil))) (pa_cons (pe_lst (pa_cons (pv 6) (pa_cons (pv 6) pa_nil))) pa_nil))))) (pss_one (ps_ret pe_bl)) pss_nil)
        (pss_cons (ps_set (i := 9) sc_law.nd rfl (Or.inl rfl) (pe_tup (pa_cons (pe_ix ix_seq (pv 5) pe_int (fun _ _ => rfl)) (pa_cons (pe_callTy (call_dictP rfl) (by rfl) N.dict (by decide +kernel) (pa_cons (pe_lc (te := tTup (tCons (tVar 7) (tCons (tDGet (tOp (rIx K) (tVar 5) (tC (.int 1))) (tVar 7)) tNil))) (own := [("house", 7)]) (g := gName 7) (by rfl) sc_law.nd (pi_list (pe_ix ix_seq (pv 3) pe_int (fun _ _ => rfl))) (blkOk_by (own := [("house", 7)]) (N := N_law) (sc := defScope s_law) (by decide +kernel)) (fun _ _ _ _ _ => pg_name (i := 7) sc_law.nd rfl (Or.inl rfl)) (fun _ _ _ _ _ => pts_nil) (fun _ _ _ _ _ => (by exact (pe_tup (pa_cons (pv 7) (pa_cons (pe_dget hu0 (pe_ix ix_seq (pv 5) pe_int (fun _ _ => rfl)) (pv 7) (fun _ _ => rfl)) pa_nil)))))) pa_nil)) pa_nil))))
        (pss_cons (ps_set (i := 10) sc_law.nd rfl (Or.inl rfl) (pe_cx (E := fun _ _ _ => False) Ord (hr.mono (by decide)) gRd L2.takes0 (fun _ _ _ _ h => h) (pa_cons (pv 4) (pa_cons (pv 6) pa_nil))))
        (pss_cons (ps_if (PW.pt (pw_or (pt_not (pt_val (pe_c Osm (hr.mono (by decide)) gSm (pa_cons (pv 10) (pa_cons (pv 9) pa_nil))))) (pw_or1 (pt_cmpR (op_neD hr.units) (pe_callTy (call_listD rfl) (by rfl) N.list (by decide +kernel) (pa_cons (pe_ix ix_seq (pv 10) pe_int (fun _ _ => rfl)) pa_nil)) (pe_ix ix_seq (pv 3) pe_int (fun _ _ => rfl)) (nomark _))))) (pss_one (ps_ret pe_bl)) pss_nil)
        (pss_cons (ps_expr (pe_dclear (pe_ix ix_seq (pv 10) pe_int (fun _ _ => rfl))))
        (pss_cons (ps_set (i := 11) sc_law.nd rfl (Or.inl rfl) (pe_op op_cat (pe_op op_cat (pe_lst (pa_cons (pv 6) (pa_cons pe_str (pa_cons (pe_c Opk (hr.mono (by decide)) gPk (pa_cons (pv 1) (pa_cons (pe_lst (pa_cons pe_non (pa_cons pe_int (pa_cons (pe_lst (pa_cons (pv 6) pa_nil)) (pa_cons pe_dnewK pa_nil))))) pa_nil))) pa_nil)))) (pe_lc (te := tCall Sp_bent [] E0 (tCons (tVar 1) (tCons (tVar 6) tNil))) (own := [("k", 12)]) (g := gName 12) (by rfl) sc_law.nd (pi_range1 (by rfl) N.range (pa_cons pe_int pa_nil)) (blkOk_by (own := [("k", 12)]) (N := N_law) (sc := defScope s_law) (by decide +kernel)) (fun _ _ _ _ _ => pg_name (i := 12) sc_law.nd rfl (Or.inl rfl)) (fun _ _ _ _ _ => pts_nil) (fun _ _ _ _ _ => (by exact (pe_c Obt (hr.mono (by decide)) gBt (pa_cons (pv 1) (pa_cons (pv 6) pa_nil))))))) (pe_lst (pa_cons (pe_c Obt (hr.mono (by decide)) gBt (pa_cons (pv 1) (pa_cons (pe_c Obt (hr.mono (by decide)) gBt (pa_cons (pv 1) (pa_cons (pv 6) pa_nil))) pa_nil))) pa_nil))))
        (pss_cons (ps_for PassesOwn.never (by rfl) (pi_list (pv 11)) (pg_name (i := 13) sc_law.nd rfl (Or.inr rfl))
          (pss_cons (ps_set (i := 14) sc_law.nd rfl (Or.inl rfl) (pe_lst (pa_cons (pe_lamcall (T := T) (k := 5) (t := fun E => tCall (Sp_read_reading C CB CT) [] E (tCons (tVar 4) (tCons (tVar 13) tNil))) (by rfl) gMt FM.kp lkM hcM bM sc_law_met rfl (.inl rfl) (met_gives mT mR EX) TB rfl hT hu hr7 (lamS_by (sc := defScope s_law) (by decide +kernel)) rfl (fun _ _ _ _ _ => rfl) (fun A outer s H E f c' hr' => pe_cx (E := E) Ord hr' gRd (takes_of rfl rfl rfl rfl) (fun _ _ _ _ h => h) (pa_cons (pv 4) (pa_cons (pv 13) pa_nil)))) (pa_cons pe_non pa_nil))))
          (pss_cons (ps_asg (pe_lamcall (T := T) (k := 5) (t := fun E => tCallS (Sp_read_reading C CB CT) E (tCons (tVar 13) (tCons (tVar 4) tNil))) (by rfl) gMt FM.kp lkM hcM bM sc_law_met rfl (.inl rfl) (met_gives mT mR EX) TB rfl hT hu hr7 (lamS_by (sc := defScope s_law) (by decide +kernel)) rfl (fun _ _ _ _ _ => rfl) (fun A outer s H E f c' hr' => pe_cxk (E := E) OrdK hr' gRd (takes_of rfl rfl rfl rfl) (fun _ _ _ _ h => h) (pk_cons (pv 13) (pk_cons (pv 4) pk_nil)))) (pg_sub (pv 14) pe_int set_list))
          (pss_cons (ps_set (i := 15) sc_law.nd rfl (Or.inl rfl) (pe_c Ors (hr.mono (by decide)) gRs (pa_cons (pv 3) (pa_cons (pv 13) pa_nil))))
          (pss_one (ps_if (pt_not (pt_val (pe_c Osm (hr.mono (by decide)) gSm (pa_cons (pv 14) (pa_cons (pe_lst (pa_cons (pv 15) (pa_cons (pv 15) pa_nil))) pa_nil))))) (pss_one (ps_ret pe_bl)) pss_nil))))))
        (pss_cons (ps_set (i := 16) sc_law.nd rfl (Or.inr rfl) (pe_c Opk (hr.mono (by decide)) gPk (pa_cons (pv 1) (pa_cons (pe_lst (pa_cons pe_non (pa_cons (pe_tup (pa_cons pe_int (pa_cons (pe_ix ix_seq (pv 5) pe_int (fun _ _ => rfl)) pa_nil))) (pa_cons (pe_tup (pa_cons (pe_ix ix_seq (pv 5) pe_int (fun _ _ => rfl)) (pa_cons pe_non pa_nil))) (pa_cons (pe_ix ix_seq (pv 5) pe_int (fun _ _ => rfl)) (pa_cons (pe_tup (pa_cons pe_bl (pa_cons (pe_ix ix_seq (pv 5) pe_int (fun _ _ => rfl)) pa_nil))) (pa_cons (pe_tup (pa_cons (pe_ix ix_seq (pv 5) pe_int (fun _ _ => rfl)) (pa_cons pe_dnewK pa_nil))) (pa_cons pe_str pa_nil)))))))) pa_nil))))
        (pss_one (ps_if (PW.pt (pw_and (pt_not (pt_val (pe_c Oir (hr.mono (by decide)) gIr (pa_cons (pv 3) (pa_cons (pv 16) pa_nil))))) (pw_and1 (pt_not (pt_val (pe_c Osm (hr.mono (by decide)) gSm (pa_cons (pe_lamcall (T := T) (k := 5) (t := fun E => tCall (Sp_reading_text C CB CR) [] E (tCons (tVar 4) (tCons (tVar 16) tNil))) (by rfl) gMt FM.kp lkM hcM bM sc_law_met rfl (.inl rfl) (met_gives mT mR EX) TB rfl hT hu hr7 (lamS_by (sc := defScope s_law) (by decide +kernel)) rfl (fun _ _ _ _ _ => rfl) (fun A outer s H E f c' hr' => pe_cx (E := E) Ort hr' gRt (takes_of rfl rfl rfl rfl) (fun _ _ _ _ h => h) (pa_cons (pv 4) (pa_cons (pv 16) pa_nil)))) (pa_cons (pe_tup (pa_cons pe_str (pa_cons (pv 16) pa_nil))) pa_nil)))))))) (pss_one (ps_ret pe_bl)) pss_nil))))))))))))))))))
    (pss_one (ps_ret pe_bl))), ?_⟩
  refine ⟨_, rfl, a, ns, rfl, hS, fun s t H1 hs ht hst hx i1 => ?_⟩
  have nsF : ∀ {b : Addr}, H b = none → b ∉ T.map Prod.fst := fun hb z => by
    obtain ⟨p, hp, e⟩ := List.mem_map.mp z
    have := hTb p hp
    rw [e, hb] at this
    cases this
  have dj : Dj s t (T.map Prod.fst) := ⟨nsF hs, nsF ht⟩
  have tb1 : ∀ p ∈ T, H1 p.1 = some (.tbl #[]) := fun p hp => hx _ _ (hTb p hp)
  have X1 : LK T (T.map Prod.fst) s t 0 (DL.nt (Hd (DL.St s t 0) (T.map Prod.fst) H1)) H1 := by
    refine LK.nt ⟨⟨⟨Ex.refl _, i1, fun b hb => ?_⟩, (fun b o h => by
      have := (hd_some.mp h).2
      cases this), (fun b hb => by cases hb), (fun b hb => by cases hb)⟩, fun p hp => ?_, fun p hp => List.mem_map.mpr ⟨p, hp, rfl⟩, fun b hb => ?_⟩
    · obtain ⟨p, hp, rfl⟩ := List.mem_map.mp hb
      exact ⟨_, tb1 p hp, rfl⟩
    · exact ⟨#[], tb1 p hp, trivial, fun pos cv hc => by cases hc⟩
    · obtain ⟨p, hp, rfl⟩ := List.mem_map.mp hb
      exact .inl ⟨p, hp, rfl⟩
  have nb1 : NB (DL.nt (Hd (DL.St s t 0) (T.map Prod.fst) H1)) := nb_nt
  revert X1 nb1
  generalize T.map Prod.fst = F0 at dj
  generalize DL.nt (Hd (DL.St s t 0) F0 H1) = B1
  intro X1 nb1
  have hsz : (1000 : Nat) < sizeLine := by decide
  -- three turns
  refine r_forN (c := 0) (PI := fun l => l = rangeD 0 3) (fun Rr kk => x_rng (te := tC (.int 3)) (k := 3) (fun Q q => q) (by decide) (by decide) Rr fun J wk => kk J _ B1 H1 rfl (Ex.refl _) (fun _ _ => rfl) X1.R (wk _)) (fun _ => n00) nb1 X1.L
    (fun ys i σ B' H' => ∃ v2 v3 v4 v5 v6 v7 v8 v9 v10 v11 v12 v13 v14 v15 v16 : Option L2.V, σ = [some (.ref a), some (.ref s), v2, v3, v4, v5, v6, v7, v8, v9, v10, v11, v12, v13, v14, v15, v16] ∧ LK T F0 s t (100000 * i) B' H')
    (fun ys i σ B' H' ⟨_, _, _, _, _, _, _, _, _, _, _, _, _, _, _, _, X⟩ => ⟨_, X.R⟩) (fun ys B' H' _ _ _ _ R L => ⟨_, _, _, _, _, _, _, _, _, _, _, _, _, _, _, rfl, ⟨R, L⟩⟩) ?_ ?_
  · rintro ys i d xv σ' Bb Bq1 Hq1 B2 H2 rfl eb nb eb1 hd' ⟨v2, v3, v4, v5, v6, v7, v8, v9, v10, v11, v12, v13, v14, v15, v16, rfl, Xq⟩ e2 k2 up2 dx
    have hi3 : i < 3 := by
      have := (List.getElem?_eq_some_iff.mp hd').1
      rw [rangeD_length] at this
      omega
    have X2 : LK T F0 s t (100000 * i) B2 H2 := Xq.go e2 k2 (up2 _ Xq.R)
    have U2 : Ux Bb B2 := Ux.of (eb1.trans e2)
    refine k_setS (c := 1 + 1000) (P := fun d => ∃ V : Vl, d = lvD V ∧ VSo V ∧ ((V.ns.length : Nat) : Int) ≤ 5) (es_call (c1 := 1) (c2 := 1000) (PA := fun ds => ∃ d r, ds = d :: r ∧ d ∈ [D.int 1, .int 3, .int 5] ∧ ∃ d2, r = [d2] ∧ d2 = .int 7) hst rfl
      (esa_cons (es_pick0 (th := .lst [.int 1, .int 3, .int 5]) (l := [.int 1, .int 3, .int 5]) hst rfl (fun n => EvF.ev (ef_lst (ea_cons ev_int (ea_cons ev_int (ea_cons ev_int ea_nil))) (show 3 ≤ sizeLine by omega))) rfl (by decide) (by decide)) fun B' e => esa_one (es_ev fun n => ev_int)) ?_) X2 dj (by omega) fun v3 B3 H3 dV ⟨V, eV, hV, hn5⟩ e3 X3 dv3 => ?_
    · rintro ds ⟨d, r, rfl, hd, d2, rfl, rfl⟩
      simp only [List.mem_cons, List.not_mem_nil, or_false] at hd
      have fin : ∀ k : Int, 1 ≤ k → k ≤ 5 → ∃ a : Int × Int, [D.int k, .int 7] = [.int a.1, .int a.2] ∧ (1 ≤ a.1 ∧ a.1 ≤ 16 ∧ 0 ≤ a.2 ∧ a.2 ≤ 16) ∧ 1000 ≤ 1000 ∧ ∀ d, (∃ V : Vl, d = lvD V ∧ VSo V ∧ ((V.ns.length : Nat) : Int) ≤ a.1) → ∃ V : Vl, d = lvD V ∧ VSo V ∧ ((V.ns.length : Nat) : Int) ≤ 5 := fun k h1 h5 =>
        ⟨(k, 7), rfl, ⟨h1, by show k ≤ 16; omega, by show (0 : Int) ≤ 7; omega, by show (7 : Int) ≤ 16; omega⟩, Nat.le_refl _, fun d ⟨V, e, h, hl⟩ => ⟨V, e, h, by have : ((V.ns.length : Nat) : Int) ≤ k := hl; omega⟩⟩
      rcases hd with rfl | rfl | rfl
      · exact fin 1 (by omega) (by omega)
      · exact fin 3 (by omega) (by omega)
      · exact fin 5 (by omega) (by omega)
    subst eV
    have pV := hV.ok
    have U3 := U2.trans (Ux.of e3)
    -- the village made
    refine k_setS (es_call0 (cost := fun _ => 10000) (inp := fun V => [lvD V]) (pre := fun V => VSo V) (post := fun V d => d = vD C V) V hst rfl (fun n => ea_cons (ev_var (i := 3) rfl dv3) ea_nil) hV) X3 dj (by omega) fun v4 B4 H4 dM eM e4 X4 dv4 => ?_
    subst eM
    have U4 := U3.trans (Ux.of e4)
    refine r_refd X4 dj hst rfl rfl rfl (dv3.mono e4.le) dv4 pV (by omega) fun B5 H5 u5 X5 => ?_
    have U5 := U4.trans u5
    have dv35 := (dv3.mono e4.le).mono u5.le
    have dv45 := dv4.mono u5.le
    refine r_next ?_
    dsimp only
    refine as_seq ?_
    -- the readings
    have X5' := X5.nt
    have dv36 := dv35.mono (nt_le (B := B5))
    have dv46 := dv45.mono (nt_le (B := B5))
    have U6 := U5.trans Ux.nt
    have nb6 : NB (DL.nt B5) := nb_nt
    revert X5' dv36 dv46 U6 nb6
    generalize DL.nt B5 = B6
    intro X6 dv36 dv46 U6 nb6
    refine r_forN (c := 10000) (PI := fun l => ∃ (m : Int) (gs : List (Str → Int)), l = gs.map (rdgD V m) ∧ 2 ≤ m ∧ m ≤ 6 ∧ gs.length ≤ 4 ∧ ∀ g ∈ gs, readD V (rdgD V m g) = true)
      (hiN (es_call0 (i := 1) (cost := fun _ => 10000) (inp := fun V => [lvD V]) (pre := fun V => VSo V) (post := fun V d => ∃ (m : Int) (gs : List (Str → Int)), d = .lst (gs.map (rdgD V m)) ∧ 2 ≤ m ∧ m ≤ 6 ∧ gs.length ≤ 4 ∧ ∀ g ∈ gs, readD V (rdgD V m g) = true) V hst rfl (fun n => ea_cons (ev_var (i := 3) rfl dv36) ea_nil) hV) (fun d ⟨m, gs, e, h⟩ => ⟨_, e, m, gs, rfl, h⟩) X6.R dj (by omega)) (fun _ => n00) nb6 X6.L
      (fun ys j σ B' H' => ∃ v5 v6 v7 v8 v9 v10 v11 v12 v13 v14 v15 v16 : Option L2.V, σ = [some (.ref a), some (.ref s), some xv, some v3, some v4, v5, v6, v7, v8, v9, v10, v11, v12, v13, v14, v15, v16] ∧ LK T F0 s t (100000 * i + 30000 + 10000 * j) B' H')
      (fun ys i σ B' H' ⟨_, _, _, _, _, _, _, _, _, _, _, _, _, X⟩ => ⟨_, X.R⟩) (fun ys B' H' _ _ _ _ R L => ⟨_, _, _, _, _, _, _, _, _, _, _, _, rfl, ⟨R.upS (by omega), L⟩⟩) ?_ ?_
    · rintro ys j d x5 σ' Bc Br1 Hr1 B7 H7 ⟨m, gs, rfl, hm2, hm6, hg4, hgs⟩ ec nc ec1 hd' ⟨v5, v6, v7, v8, v9, v10, v11, v12, v13, v14, v15, v16, rfl, Xr⟩ e7 k7 up7 dx5
      rw [List.getElem?_map] at hd'
      obtain ⟨g, hg, rfl⟩ := Option.map_eq_some_iff.mp hd'
      have hj4 : j < 4 := by have := (List.getElem?_eq_some_iff.mp hg).1; omega
      have hrd : readD V (rdgD V m g) = true := hgs g (List.mem_of_getElem? hg)
      have ok : okRow V m g := rd_of pV (by omega) hrd
      have X7 : LK T F0 s t (100000 * i + 30000 + 10000 * j) B7 H7 := Xr.go e7 k7 (up7 _ Xr.R)
      have U7 : Ux Bc B7 := Ux.of (ec1.trans e7)
      have dV7 := dv36.mono (ec.trans (ec1.trans e7)).le
      have dM7 := dv46.mono (ec.trans (ec1.trans e7)).le
      have hz130 : (rdS V m g).length ≤ 130 := by have := rd_len2 ok; omega
      have hAsc : Asc (rdS V m g) := rd_asc ok
      have hn16 := pV.n
      -- due
      refine k_set X7 (ev_due ok (ev_op (ev_var (i := 5) rfl dx5) ev_int (rv_ix rfl rfl)) (ev_join (ys := V.ns.map fun a => ("weigh " : Str) ++ a ++ " " ++ strI (g a) ++ "\n") ev_str (EvF.ev (ef_is (ef_lcmA (ys := V.ns) (en := D.str) (fun a => .str (("weigh " : Str) ++ a ++ " " ++ strI (g a) ++ "\n")) (ei_list (ev_lv0 (ev_var (i := 3) rfl dV7))) (by omega) fun a ha => turn_name (fun _ => rfl) fun B' z e dz =>
        ⟨et_yes, fun _ => ev_duerow (ev_var rfl dz) (ev_dget (q := .inr a) (ev_op (ev_var (i := 5) rfl (dx5.mono e.le)) ev_int (rv_ix rfl rfl)) (ev_var rfl dz) (lk_map ha)) (ok.2.2.2 a ha).1 (by have := (ok.2.2.2 a ha).2; omega) (nm8 (pV.nm a ha))⟩) (by rw [List.map_map]; rfl))) rfl ?_)) fun v6 B8 H8 e8 X8 dv6 => ?_
      · have := sum_len (l := V.ns.map fun a => ("weigh " : Str) ++ a ++ " " ++ strI (g a) ++ "\n") (g := fun t : Str => t.length) (c := 20) fun t ht => by
          obtain ⟨a, ha, rfl⟩ := List.mem_map.mp ht
          exact row_len (ok.2.2.2 a ha).1 (by have := (ok.2.2.2 a ha).2; omega) (nm8 (pV.nm a ha))
        rw [List.length_map] at this
        have e0 : ("" : Str).length = 0 := rfl
        rw [e0, Nat.mul_zero]
        omega
      have dV8 := dV7.mono e8.le
      have dM8 := dM7.mono e8.le
      have dR8 := dx5.mono e8.le
      have ev6 : v6 = .str (rdS V m g) := dv6
      subst ev6
      -- handed
      refine k_setS (es_handed (V := V) (g := g) (m := m) hst rfl pV (fun n => ev_op (ev_var (i := 5) rfl dR8) ev_int (rv_ix rfl rfl)) (fun n B' e => ev_lv0 (ev_var (i := 3) rfl (dV8.mono e.le))) (fun _ => rfl) (fun n a B' x ha e dx => ev_tup (ea_cons (ev_var rfl dx) (ea_cons (ev_dget (q := .inr a) (ev_op (ev_var (i := 5) rfl (dR8.mono e.le)) ev_int (rv_ix rfl rfl)) (ev_var rfl dx) (lk_map ha)) ea_nil)) (show 2 ≤ sizeLine by omega)))
        X8 dj (by omega) fun v8 B9 H9 dh ⟨ms, pm, sqh⟩ e9 X9 dv8 => ?_
      have dV9 := dV8.mono e9.le
      have dM9 := dM8.mono e9.le
      have dR9 := dR8.mono e9.le
      have hndm : ms.Nodup := pm.nodup_iff.mpr pV.nd
      have hrdh : readD V dh = true := by rw [read_perm pV pm sqh]; exact hrd
      have hRr : okR C (rdgD V m g) := okR_rd pV.nd rfl
      have e1 : rdS V m (lkI (ms.map .inr) (ms.map fun a => .int (g a))) = rdS V m g := rdS_congr fun a ha => lkI_map (pm.mem_iff.mpr ha)
      have e2 : rdS V m (lkI (V.ns.map .inr) (V.ns.map fun a => .int (g a))) = rdS V m g := rdS_congr fun a ha => lkI_map ha
      have dueE : ∀ {n : Nat} {B : Hp} {σ : L2.St}, σ[6]? = some (some (.str (rdS V m g))) → Ev (DL.St s t n) (tVar 6) σ B (.str (rdS V m g)) := fun h => ev_var h rfl
      -- both texts are the due one
      refine k_if X9 (et_is (et_not (et_val (ev_callQ (inp := fun x => [x, x]) (f := fun _ => .bl true) (.lst [.str (rdS V m g), .str (rdS V m g)]) (ea_cons (EvF.ev (ef_lst (ea_cons (ev_is (ev_rtP (ea_cons (ev_var (i := 4) rfl dM9) (ea_cons (ev_var (i := 8) rfl dv8) ea_nil)) pV (okR_rd hndm sqh) sqh hrdh (by omega)) (congrArg D.str e1))
        (ea_cons (ev_is (ev_rtK (ea_cons (ev_callQ (inp := fun x => [x]) (f := fun x => x) (rdgD V m g) (ea_cons (ev_var (i := 5) rfl dR9) ea_nil) (cop_rd pV)) (ea_cons (ev_var (i := 4) rfl dM9) ea_nil)) pV hRr rfl hrd (by omega)) (congrArg D.str e2)) ea_nil)) (show 2 ≤ sizeLine by omega))) (ea_cons (EvF.ev (ef_lst (ea_cons (dueE rfl) (ea_cons (dueE rfl) ea_nil)) (show 2 ≤ sizeLine by omega))) ea_nil)) smok_strs2))) rfl) fun B10 H10 e10 X10 => ?_
      refine r_next ?_
      dsimp only
      have dV10 := dV9.mono e10.le
      have dM10 := dM9.mono e10.le
      have dR10 := dR9.mono e10.le
      -- whole
      refine k_set X10 (d := rdgD V m g) (ev_tup (ea_cons (ev_op (ev_var (i := 5) rfl dR10) ev_int (rv_ix rfl rfl)) (ea_cons (EvG.ev (eg_dictP (ns := V.ns) (g := fun a => D.int (g a)) (EvF.ev (ef_lcmA (ys := V.ns) (en := D.str) (fun a => .tup [.str a, .int (g a)]) (ei_list (ev_lv0 (ev_var (i := 3) rfl dV10))) (by omega) fun a ha => turn_name (fun _ => rfl) fun B' z e dz =>
        ⟨et_yes, fun _ => ev_tup (ea_cons (ev_var rfl dz) (ea_cons (ev_dget (q := .inr a) (ev_op (ev_var (i := 5) rfl (dR10.mono e.le)) ev_int (rv_ix rfl rfl)) (ev_var rfl dz) (lk_map ha)) ea_nil)) (show 2 ≤ sizeLine by omega)⟩)) pV.nd)) ea_nil)) (show 2 ≤ sizeLine by omega)) fun v9 B11 H11 e11 X11 dv9 => ?_
      have dV11 := dV10.mono e11.le
      have dM11 := dM10.mono e11.le
      have dR11 := dR10.mono e11.le
      have hfD : (.tup [.int m, fD V (V.ns.map g)] : D) = rdgD V m g := by rw [fD_rdg]; rfl
      have nok : V.ns.all PyData.strOk = true := by
        rw [List.all_eq_true]
        exact fun a ha => (name_asc (pV.nm a ha)).ok
      have okD : okS (.str (rdS V m g)) := fun s e => by
        cases e
        exact ⟨by omega, hAsc⟩
      -- told
      refine r_toldAll (C := C) (CB := CB) (CT := CT) (V := V) (z := rdS V m g) (m := m) (nums := V.ns.map g) (fun _ => rfl) X11.R (ea_cons (ev_var (i := 4) rfl dM11) (ea_cons (dueE rfl) ea_nil)) pV okD (rd_parse pV (by omega) hrd) (fun _ _ _ => rfl) (fun v B' e dt => ?_) fun v10 B12 H12 e12 k12 R12 => ?_
      · rw [hfD] at dt
        refine et_is (et_or (a := false) (b := false) (et_is (et_not (et_val (ev_callQ (inp := fun x => [x, x]) (f := fun _ => .bl true) (rdgD V m g) (ea_cons (ev_var (i := 10) rfl dt) (ea_cons (ev_var (i := 9) rfl (dv9.mono e.le)) ea_nil)) (by rw [← hfD]; exact smok_told pV)))) rfl) fun _ => et_is (et_cmp (ev_op (EvF.ev (ef_listD (ns := V.ns) (l := V.ns.map fun a => .int (g a)) (ev_op (ev_var (i := 10) rfl dt) ev_int (rv_ix rfl rfl)))) (ev_lv0 (ev_var (i := 3) rfl (dV11.mono e.le))) (rv_neLS nok nok))) (by simp)) rfl
      have X12 := X11.go e12 k12 R12
      have dV12 := dV11.mono e12.le
      have dM12 := dM11.mono e12.le
      have dR12 := dR11.mono e12.le
      -- the texts
      refine k_setS (es_texts (C := C) hst rfl (fun n B' e => dueE rfl) hz130 hAsc (fun _ => rfl) (fun _ => rfl) (fun n B' x e => dueE rfl)) X12 dj (by omega) fun v11 B13 H13 dT hT e13 X13 dv11 => ?_
      have dV13 := dV12.mono e13.le
      have dM13 := dM12.mono e13.le
      have dR13 := dR12.mono e13.le
      have U13 : Ux Bc B13 := U7.trans (Ux.of ((((((e8.trans e9).trans e10).trans e11).trans e12).trans e13)))
      have X13' := (X13.up (m := 100000 * i + 30000 + 10000 * j + 400) (by omega)).nt
      have dV13' := dV13.mono (nt_le (B := B13))
      have dM13' := dM13.mono (nt_le (B := B13))
      have dR13' := dR13.mono (nt_le (B := B13))
      have dT13' := dv11.mono (nt_le (B := B13))
      have U13' := U13.trans Ux.nt
      have nb13' : NB (DL.nt B13) := nb_nt
      revert X13' dV13' dM13' dR13' dT13' U13' nb13'
      generalize DL.nt B13 = B14
      intro X14 dV14 dM14 dR14 dT14 U14 nb14
      refine r_forN (c := 0) (PI := fun l => l.length ≤ 12 ∧ ∀ x ∈ l, TxOk C x) (hiN (es_ev (d := dT) fun n => ev_var (i := 11) rfl dT14) (fun d e => by
          rw [e]
          exact hT) X14.R dj (by omega)) (fun _ => n00) nb14 X14.L
        (fun ys q σ B' H' => ∃ v13 v14 v15 : Option L2.V, σ = [some (.ref a), some (.ref s), some xv, some v3, some v4, some x5, some (.str (rdS V m g)), v7, some v8, some v9, some v10, some v11, v12, v13, v14, v15, v16] ∧ LK T F0 s t (100000 * i + 30000 + 10000 * j + 400) B' H')
        (fun ys i σ B' H' ⟨_, _, _, _, X⟩ => ⟨_, X.R⟩) (fun ys B' H' _ _ _ _ R L => ⟨_, _, _, rfl, ⟨R, L⟩⟩) ?_ ?_
      · rintro ys q tx x13 σ' Bd Bs1 Hs1 B15 H15 ⟨hl12, hTx⟩ ed nd ed1 hdq ⟨v13, v14, v15, rfl, Xs⟩ e15 k15 up15 dx13
        have X15 := Xs.go e15 k15 (up15 _ Xs.R)
        have U15 : Ux Bd B15 := Ux.of (ed1.trans e15)
        have tok := hTx tx (List.mem_of_getElem? hdq)
        have dV15 := dV14.mono (ed.trans (ed1.trans e15)).le
        have dM15 := dM14.mono (ed.trans (ed1.trans e15)).le
        refine r_found (r := rsD V tx) (fun _ => rfl) X15 (fun B1 le => met_rd (C := C) (CB := CB) (CT := CT) (CR := CR) (calls_pos (ea_cons (ev_var (i := 4) rfl (dM15.mono le)) (ea_cons (ev_var (i := 13) rfl (dx13.mono le)) ea_nil))) pV tok.1 tok.2)
          (fun v B1 le => met_rd (C := C) (CB := CB) (CT := CT) (CR := CR) (calls_kw (ea_cons (ev_var (i := 13) rfl (dx13.mono le)) (ea_cons (ev_var (i := 4) rfl (dM15.mono le)) ea_nil))) pV tok.1 tok.2) fun v14 B16 H16 u16 X16 dv14 => ?_
        have dV16 := dV15.mono u16.le
        have dx16 := dx13.mono u16.le
        refine k_set X16 (ev_callQ (inp := fun p : Vl × D => [lvD p.1, p.2]) (f := fun p : Vl × D => rsD p.1 p.2) (V, tx) (ea_cons (ev_var (i := 3) rfl dV16) (ea_cons (ev_var (i := 13) rfl dx16) ea_nil)) ⟨pV, tok.1, tok.2⟩) fun v15 B17 H17 e17 X17 dv15 => ?_
        refine as_seq (k_if X17 (et_is (et_not (et_val (ev_callQ (inp := fun x => [x, x]) (f := fun _ => .bl true) (.lst [rsD V tx, rsD V tx]) (ea_cons (ev_var (i := 14) rfl (dv14.mono e17.le)) (ea_cons (EvF.ev (ef_lst (ea_cons (ev_var (i := 15) rfl dv15) (ea_cons (ev_var (i := 15) rfl dv15) ea_nil)) (show 2 ≤ sizeLine by omega))) ea_nil)) (smok_rs pV)))) rfl) fun B18 H18 e18 X18 => ?_)
        refine r_next ?_
        dsimp only
        exact ⟨B18, (((U15.trans u16).trans (Ux.of e17)).trans (Ux.of e18)).bb Bd nd (Ex.refl _), _, _, _, rfl, X18⟩
      · rintro ys σ' B19 H19 _ e19 ⟨v13, v14, v15, rfl, X19⟩
        have dV19 := dV14.mono e19.le
        have dM19 := dM14.mono e19.le
        have dR19 := dR14.mono e19.le
        have r0 : ∀ {n : Nat}, Ev (DL.St s t n) (tOp (rIx K) (tVar 5) (tC (.int 0))) [some (.ref a), some (.ref s), some xv, some v3, some v4, some x5, some (.str (rdS V m g)), v7, some v8, some v9, some v10, some v11, v12, v13, v14, v15, v16] B19 (.int m) := ev_op (ev_var (i := 5) rfl dR19) ev_int (rv_ix rfl rfl)
        have r1 : ∀ {n : Nat}, Ev (DL.St s t n) (tOp (rIx K) (tVar 5) (tC (.int 1))) [some (.ref a), some (.ref s), some xv, some v3, some v4, some x5, some (.str (rdS V m g)), v7, some v8, some v9, some v10, some v11, v12, v13, v14, v15, v16] B19 (dN V.ns g) := ev_op (ev_var (i := 5) rfl dR19) ev_int (rv_ix rfl rfl)
        refine k_setS (es_pick0 (th := .lst (oddR V m g)) (l := oddR V m g) hst rfl (fun n => EvF.ev (ef_lst (ea_cons ev_non (ea_cons (ev_tup (ea_cons ev_int (ea_cons r1 ea_nil)) (show 2 ≤ sizeLine by omega)) (ea_cons (ev_tup (ea_cons r0 (ea_cons ev_non ea_nil)) (show 2 ≤ sizeLine by omega)) (ea_cons r1 (ea_cons (ev_tup (ea_cons ev_bl (ea_cons r1 ea_nil)) (show 2 ≤ sizeLine by omega))
          (ea_cons (ev_tup (ea_cons r0 (ea_cons (EvG.ev eg_dict0) ea_nil)) (show 2 ≤ sizeLine by omega)) (ea_cons ev_str ea_nil))))))) (show 7 ≤ sizeLine by omega))) rfl (by show 1 ≤ 7; omega) (by show 7 ≤ 1000; omega)) X19 dj (by omega) fun v16 B20 H20 dO hO e20 X20 dv16 => ?_
        obtain ⟨oR, oS⟩ := oddR_ok (C := C) pV hO
        have dV20 := dV19.mono e20.le
        have dM20 := dM19.mono e20.le
        refine r_odd X20 (tl := fun E => tCall (Sp_reading_text C CB CR) [] E (tCons (tVar 4) (tCons (tVar 16) tNil))) (r := .tup [.str "reading", dO]) (b := readD V dO) (ev_callQ (inp := fun p : Vl × D => [lvD p.1, p.2]) (f := fun p : Vl × D => .bl (readD p.1 p.2)) (V, dO) (ea_cons (ev_var (i := 3) rfl dV20) (ea_cons (ev_var (i := 16) rfl dv16) ea_nil)) ⟨pV, oR⟩)
          (fun hb B1 le => .inr (.inr ⟨dO, rfl, rais_rtR (calls_pos (ea_cons (ev_var (i := 4) rfl (dM20.mono le)) (ea_cons (ev_var (i := 16) rfl (dv16.mono le)) ea_nil))) pV oR hb⟩)) (fun B1 le => ev_tup (ea_cons ev_str (ea_cons (ev_var (i := 16) rfl (dv16.mono le)) ea_nil)) (show 2 ≤ sizeLine by omega)) (fun _ => oS) (fun _ _ _ => rfl) fun B21 H21 u21 X21 => ?_
        exact ⟨B21, (((U14.trans (Ux.of e19)).trans (Ux.of e20)).trans u21).bb Bc nc (Ex.refl _), _, _, _, _, _, _, _, _, _, _, _, _, rfl, X21.up (by omega)⟩
    · rintro ys σ' B' H' ⟨m, gs, hgl, _, _, hg4, _⟩ eE ⟨v5, v6, v7, v8, v9, v10, v11, v12, v13, v14, v15, v16, rfl, X⟩
      exact ⟨B', (U6.trans (Ux.of eE)).bb Bb nb (Ex.refl _), _, _, _, _, _, _, _, _, _, _, _, _, _, _, _, rfl, X.up (by
        rw [hgl, List.length_map]
        omega)⟩
  · rintro ys σ' B' H' _ _ _
    exact kf _
end
end Pg

namespace Pg
open PySem PySem.Spec PyProof.Rows L2 DL RX RZ LiI LamX TA
structure D1 (K : PySem.W.Frag) (mg : Str → Option Value) (x : Str) (st : Stmt) (f : Addr) (fd : FuncData) : Prop where
  g : mg x = some (.ref f)
  F : Fun K x x st f fd
structure M1 (K : PySem.W.Frag) (C : Addr) (m qual : Str) (st : Stmt) (f : Addr) (fd : FuncData) : Prop where
  mt : Meth K C m f
  F : Fun K m qual st f fd
structure I1 (K : PySem.W.Frag) (C : Addr) (qual : Str) (st : Stmt) (f : Addr) (fd : FuncData) : Prop where
  made : Mk K C f
  F : Fun K "__init__" qual st f fd
structure E1 (K : PySem.W.Frag) (mg : Str → Option Value) (x fl qual : Str) (st : Stmt) (C : Addr) : Prop where
  m : mg x = some (.ref C)
  T : OexC K C
  xf : XfC K C
  no : PySem.W.findIn K (.ref C) fl = some none
  ini : ∃ fI fd, PySem.W.findIn K (.ref C) "__init__" = some (some (.ref fI)) ∧ PySem.W.typeIn K (.ref fI) = some (.type "function") ∧ Fun K "__init__" qual st fI fd
  m11 : PySem.W.exmOne K (.ref C) (.ref C) = some true
/-- what an error of the class at S says to the clause of the class at R -/
theorem exm_at {K : PySem.W.Frag} {S R : Addr} {b : Bool} (h1 : PySem.W.subIn K (.ref R) (.type "BaseException") = some true) (h2 : PySem.W.isClsIn K R = true) (h3 : PySem.W.typeIn K (.ref R) = some (.type "type")) (h4 : PySem.W.subIn K (.ref S) (.ref R) = some b) : PySem.W.exmOne K (.ref S) (.ref R) = some b := by
  have e1 : (PySem.W.subIn K (.ref R) (.type "BaseException") == some true) = true := by rw [h1] <;> rfl
  have e2 : ((PySem.W.clsIn K R).isSome && PySem.W.typeIn K (.ref R) == some (.type "type")) = true := by
    have h2' : (PySem.W.clsIn K R).isSome = true := h2
    rw [h2', h3] <;> rfl
  show (if (PySem.W.subIn K (.ref R) (.type "BaseException") == some true) = true then (if ((PySem.W.clsIn K R).isSome && PySem.W.typeIn K (.ref R) == some (.type "type")) = true then PySem.W.subIn K (.ref S) (.ref R) else none) else none) = some b
  rw [if_pos e1, if_pos e2]
  exact h4
theorem FunC.binds {K : PySem.W.Frag} {x qual : Str} {st : Stmt} {f c : Addr} {fd : FuncData} (F : FunC K x qual st f fd c) {ps : List Str}
    (h : ∀ (kV doc pm : Value) (an : Option Addr) (ct : Value) (us : List Value), us.length = ps.length → bindArgs (PySem.W.fnOf x qual (defArgs st) (defBody st) (defScope st) .none kV doc pm an (.ref c) ct) ⟨us, []⟩ = pure (ps.zip us)) : Binds K fd ps [] := by
  obtain ⟨oc, od, kV, doc, pm, an, ct, osl, rfl, lk, hcd⟩ := F.ex
  exact .all (h kV doc pm an ct)
section
variable {P : Program} {w : World} {K : PySem.W.Frag} {mg : Str → Option Value} {base h : Heap} {f C CB CP CR CT : Addr} {fd : FuncData} {t : Nat}
theorem mk_d1 {x : Str} {st : Stmt} {oc : Value} {od an : Option Addr} {osl : Array (Option Value)} {kV doc pm cdv ct : Value} (X : K.In h) (G : h.Ns mainGlobals mg) (a : PySem.W.nsIn K mainGlobals x = some (some (.ref f)))
    (l : K.lookup f = some ⟨oc, od, .func (PySem.W.fnOf x x (defArgs st) (defBody st) (defScope st) .none kV doc pm an cdv ct), osl⟩) (c : PySem.W.codeIn K cdv x = true) (k : PySem.W.keepIn K (.ref f) = true) : ∃ f fd, D1 K mg x st f fd := ⟨f, _, PySem.W.mg_of X G a, fun_mk l c k⟩
theorem mk_m1 {m qual : Str} {st : Stmt} {oc : Value} {od an : Option Addr} {osl : Array (Option Value)} {kV doc pm cdv ct : Value} (a : PySem.W.findIn K (.ref C) m = some (some (.ref f))) (i : PySem.W.isFn K (.ref f) = true)
    (l : K.lookup f = some ⟨oc, od, .func (PySem.W.fnOf m qual (defArgs st) (defBody st) (defScope st) .none kV doc pm an cdv ct), osl⟩) (c : PySem.W.codeIn K cdv qual = true) (k : PySem.W.keepIn K (.ref f) = true) : ∃ f fd, M1 K C m qual st f fd := ⟨f, _, ⟨a, i, k⟩, fun_mk l c k⟩
theorem mk_i1 {qual : Str} {st : Stmt} {oc : Value} {od an : Option Addr} {osl : Array (Option Value)} {kV doc pm cdv ct : Value} (mk : PySem.W.makesIn K C = true) (kc : PySem.W.keepIn K (.ref C) = true) (a : PySem.W.findIn K (.ref C) "__init__" = some (some (.ref f))) (i : PySem.W.isFn K (.ref f) = true)
    (l : K.lookup f = some ⟨oc, od, .func (PySem.W.fnOf "__init__" qual (defArgs st) (defBody st) (defScope st) .none kV doc pm an cdv ct), osl⟩) (c : PySem.W.codeIn K cdv qual = true) (k : PySem.W.keepIn K (.ref f) = true) : ∃ f fd, I1 K C qual st f fd := ⟨f, _, ⟨mk, a, i, kc⟩, fun_mk l c k⟩
theorem mk_e1 {x fl qual : Str} {st : Stmt} {nm q : Str} {N : Addr} {bs bm : List Value} {sn : List Str} {sub : List Value} {ab : Bool} {col : Option Bool} {dd : Option Addr} {m0 m1 m2 m3 m5 : Option Value} {oc : Value} {od an : Option Addr} {osl : Array (Option Value)} {kV doc pm cdv ct : Value} (X : K.In h) (G : h.Ns mainGlobals mg)
    (aC : PySem.W.nsIn K mainGlobals x = some (some (.ref C))) (xL : K.lookup C = some (excClassObj nm q C N bs bm true sn sub ab col dd m0 m1 m2 m3 m5 "ValueError.__new__")) (rb : PySem.HandSPX.refsVE bm = true)
    (sa : PySem.W.findIn K (.ref C) "__setattr__" = some (some (.builtin "object.__setattr__"))) (ga : PySem.W.findIn K (.ref C) "__getattribute__" = some (some (.builtin "BaseException.__getattribute__"))) (gg : PySem.W.findIn K (.ref C) "__getattr__" = some none) (nb : PySem.W.findIn K (.ref C) fl = some none)
    (a1 : PySem.W.findIn K (.ref C) "__init__" = some (some (.ref f))) (t1 : PySem.W.typeIn K (.ref f) = some (.type "function"))
    (l : K.lookup f = some ⟨oc, od, .func (PySem.W.fnOf "__init__" qual (defArgs st) (defBody st) (defScope st) .none kV doc pm an cdv ct), osl⟩) (c : PySem.W.codeIn K cdv qual = true) (k : PySem.W.keepIn K (.ref f) = true)
    (kC : PySem.W.keepIn K (.ref C) = true) (eC : PySem.W.subIn K (.ref C) (.type "BaseException") = some true) (tC : PySem.W.typeIn K (.ref C) = some (.type "type")) (hC : PySem.W.hasDictIn K C = true) (iC : PySem.W.isClsIn K C = true) (sC : PySem.W.subIn K (.ref C) (.ref C) = some true) : E1 K mg x fl qual st C :=
  ⟨PySem.W.mg_of X G aC, ⟨⟨nm, q, N, bs, bm, sn, sub, ab, col, dd, m0, m1, m2, m3, m5, xL, rb⟩, sa, eC, tC, kC⟩, ⟨ga, gg, eC, hC⟩, nb, ⟨f, _, a1, t1, fun_mk l c k⟩, exm_at eC iC tC sC⟩
theorem mk_fc {x : Str} {st : Stmt} {c : Addr} {oc : Value} {od an : Option Addr} {osl : Array (Option Value)} {kV doc pm ct : Value}
    (l : K.lookup f = some ⟨oc, od, .func (PySem.W.fnOf x x (defArgs st) (defBody st) (defScope st) .none kV doc pm an (.ref c) ct), osl⟩) (cc : PySem.W.codeIn K (.ref c) x = true) (k : PySem.W.keepIn K (.ref f) = true) : ∃ fd, FunC K x x st f fd c := ⟨_, ⟨oc, od, kV, doc, pm, an, ct, osl, rfl, l, cc⟩, k⟩

theorem law_all {P1 P2 fL fR cL cR : Addr} {fdL fdR : FuncData} (N : Bn mg) (T : VlF K C) (gV : mg "Village" = some (.ref C)) (gL : mg "LETTERS" = some (.str letters t)) (hI : ∃ f fd, I1 K C "Village.__init__" s_Village_init f fd) (hL : ∃ f fd, M1 K C "is_lane" "Village.is_lane" s_Village_is_lane f fd) (hF : ∃ f fd, M1 K C "first_lost" "Village.first_lost" s_Village_first_lost f fd)
    (eB : E1 K mg "BadVillage" "village" "BadVillage.__init__" s_BadVillage_init CB) (eP : E1 K mg "BadPurse" "purse" "BadPurse.__init__" s_BadPurse_init CP) (eR : E1 K mg "BadReading" "reading" "BadReading.__init__" s_BadReading_init CR) (eT : E1 K mg "BadText" "line" "BadText.__init__" s_BadText_init CT)
    (xPB : PySem.W.exmOne K (.ref CP) (.ref CB) = some false) (xRT : PySem.W.exmOne K (.ref CR) (.ref CT) = some false)
    (h_is_list : ∃ f fd, D1 K mg "is_list" s_is_list f fd) (h_is_whole : ∃ f fd, D1 K mg "is_whole" s_is_whole f fd) (h_is_number : ∃ f fd, D1 K mg "is_number" s_is_number f fd) (h_is_row : ∃ f fd, D1 K mg "is_row" s_is_row f fd) (h_is_name : ∃ f fd, D1 K mg "is_name" s_is_name f fd) (h_first_bad_house : ∃ f fd, D1 K mg "first_bad_house" s_first_bad_house f fd) (h_is_house : ∃ f fd, D1 K mg "is_house" s_is_house f fd) (h_check_village : ∃ f fd, D1 K mg "check_village" s_check_village f fd) (h_degree_of : ∃ f fd, D1 K mg "degree_of" s_degree_of f fd) (h_is_counts : ∃ f fd, D1 K mg "is_counts" s_is_counts f fd) (h_check_purse : ∃ f fd, D1 K mg "check_purse" s_check_purse f fd) (h_behind : ∃ f fd, D1 K mg "behind" s_behind f fd) (h_is_reading_of : ∃ f fd, D1 K mg "is_reading_of" s_is_reading_of f fd) (h_integer_of : ∃ f fd, D1 K mg "integer_of" s_integer_of f fd) (h_lines_of : ∃ f fd, D1 K mg "lines_of" s_lines_of f fd) (h_modulus_of : ∃ f fd, D1 K mg "modulus_of" s_modulus_of f fd) (h_read_reading : ∃ f fd, D1 K mg "read_reading" s_read_reading f fd) (h_rows_text : ∃ f fd, D1 K mg "rows_text" s_rows_text f fd) (h_ordered : ∃ f fd, D1 K mg "ordered" s_ordered f fd) (h_reading_text : ∃ f fd, D1 K mg "reading_text" s_reading_text f fd) (h_village_text : ∃ f fd, D1 K mg "village_text" s_village_text f fd) (h_read_purse : ∃ f fd, D1 K mg "read_purse" s_read_purse f fd) (h_purse_text : ∃ f fd, D1 K mg "purse_text" s_purse_text f fd) (h_law_draw : ∃ f fd, D1 K mg "_law_draw" s_law_draw f fd) (h_law_pick : ∃ f fd, D1 K mg "_law_pick" s_law_pick f fd) (h_law_mixed : ∃ f fd, D1 K mg "_law_mixed" s_law_mixed f fd) (h_law_loose : ∃ f fd, D1 K mg "_law_loose" s_law_loose f fd) (h_law_copied : ∃ f fd, D1 K mg "_law_copied" s_law_copied f fd) (h_law_names : ∃ f fd, D1 K mg "_law_names" s_law_names f fd) (h_law_is_counts : ∃ f fd, D1 K mg "_law_is_counts" s_law_is_counts f fd) (h_law_behind : ∃ f fd, D1 K mg "_law_behind" s_law_behind f fd) (h_law_is_reading : ∃ f fd, D1 K mg "_law_is_reading" s_law_is_reading f fd) (h_law_integer : ∃ f fd, D1 K mg "_law_integer" s_law_integer f fd) (h_law_read_so : ∃ f fd, D1 K mg "_law_read_so" s_law_read_so f fd) (h_law_readings : ∃ f fd, D1 K mg "_law_readings" s_law_readings f fd) (h_law_bent : ∃ f fd, D1 K mg "_law_bent" s_law_bent f fd) (h_law_stream : ∃ f fd, D1 K mg "_law_stream" s_law_stream f fd) (h_law_same : ∃ f fd, D1 K mg "_law_same" s_law_same f fd) (h_law_village : ∃ f fd, D1 K mg "_law_village" s_law_village f fd) (h_law_made : ∃ f fd, D1 K mg "_law_made" s_law_made f fd) (h_law_met : ∃ f fd, D1 K mg "_law_met" s_law_met f fd) (h_law_refusal : ∃ f fd, D1 K mg "_law_refusal" s_law_refusal f fd)
    (FL : FunC K "law" "law" s_law fL fdL cL) (FR : FunC K "_law_are_refused" "_law_are_refused" s_law_are_refused fR fdR cR) (gR : mg "_law_are_refused" = some (.ref fR)) (ne : P1 ≠ P2) (B1 : TabB base mg cL P1) (B2 : TabB base mg cR P2) :
    FnOk P w K mg base CX0 11 fL fdL ["script"] (Sp_law K [(P1, q_law), (P2, q_refd)]) := by
  have v := T.v
  obtain ⟨f_is_list, fd_is_list, d_is_list⟩ := h_is_list
  obtain ⟨f_is_whole, fd_is_whole, d_is_whole⟩ := h_is_whole
  obtain ⟨f_is_number, fd_is_number, d_is_number⟩ := h_is_number
  obtain ⟨f_is_row, fd_is_row, d_is_row⟩ := h_is_row
  obtain ⟨f_is_name, fd_is_name, d_is_name⟩ := h_is_name
  obtain ⟨f_first_bad_house, fd_first_bad_house, d_first_bad_house⟩ := h_first_bad_house
  obtain ⟨f_is_house, fd_is_house, d_is_house⟩ := h_is_house
  obtain ⟨f_check_village, fd_check_village, d_check_village⟩ := h_check_village
  obtain ⟨f_degree_of, fd_degree_of, d_degree_of⟩ := h_degree_of
  obtain ⟨f_is_counts, fd_is_counts, d_is_counts⟩ := h_is_counts
  obtain ⟨f_check_purse, fd_check_purse, d_check_purse⟩ := h_check_purse
  obtain ⟨f_behind, fd_behind, d_behind⟩ := h_behind
  obtain ⟨f_is_reading_of, fd_is_reading_of, d_is_reading_of⟩ := h_is_reading_of
  obtain ⟨f_integer_of, fd_integer_of, d_integer_of⟩ := h_integer_of
  obtain ⟨f_lines_of, fd_lines_of, d_lines_of⟩ := h_lines_of
  obtain ⟨f_modulus_of, fd_modulus_of, d_modulus_of⟩ := h_modulus_of
  obtain ⟨f_read_reading, fd_read_reading, d_read_reading⟩ := h_read_reading
  obtain ⟨f_rows_text, fd_rows_text, d_rows_text⟩ := h_rows_text
  obtain ⟨f_ordered, fd_ordered, d_ordered⟩ := h_ordered
  obtain ⟨f_reading_text, fd_reading_text, d_reading_text⟩ := h_reading_text
  obtain ⟨f_village_text, fd_village_text, d_village_text⟩ := h_village_text
  obtain ⟨f_read_purse, fd_read_purse, d_read_purse⟩ := h_read_purse
  obtain ⟨f_purse_text, fd_purse_text, d_purse_text⟩ := h_purse_text
  obtain ⟨f_law_draw, fd_law_draw, d_law_draw⟩ := h_law_draw
  obtain ⟨f_law_pick, fd_law_pick, d_law_pick⟩ := h_law_pick
  obtain ⟨f_law_mixed, fd_law_mixed, d_law_mixed⟩ := h_law_mixed
  obtain ⟨f_law_loose, fd_law_loose, d_law_loose⟩ := h_law_loose
  obtain ⟨f_law_copied, fd_law_copied, d_law_copied⟩ := h_law_copied
  obtain ⟨f_law_names, fd_law_names, d_law_names⟩ := h_law_names
  obtain ⟨f_law_is_counts, fd_law_is_counts, d_law_is_counts⟩ := h_law_is_counts
  obtain ⟨f_law_behind, fd_law_behind, d_law_behind⟩ := h_law_behind
  obtain ⟨f_law_is_reading, fd_law_is_reading, d_law_is_reading⟩ := h_law_is_reading
  obtain ⟨f_law_integer, fd_law_integer, d_law_integer⟩ := h_law_integer
  obtain ⟨f_law_read_so, fd_law_read_so, d_law_read_so⟩ := h_law_read_so
  obtain ⟨f_law_readings, fd_law_readings, d_law_readings⟩ := h_law_readings
  obtain ⟨f_law_bent, fd_law_bent, d_law_bent⟩ := h_law_bent
  obtain ⟨f_law_stream, fd_law_stream, d_law_stream⟩ := h_law_stream
  obtain ⟨f_law_same, fd_law_same, d_law_same⟩ := h_law_same
  obtain ⟨f_law_village, fd_law_village, d_law_village⟩ := h_law_village
  obtain ⟨f_law_made, fd_law_made, d_law_made⟩ := h_law_made
  obtain ⟨f_law_met, fd_law_met, d_law_met⟩ := h_law_met
  obtain ⟨f_law_refusal, fd_law_refusal, d_law_refusal⟩ := h_law_refusal
  obtain ⟨fI, fdI, dI⟩ := hI
  obtain ⟨fL', fdL', dL⟩ := hL
  obtain ⟨fF, fdF, dF⟩ := hF
  have xB : ExF P w K mg base "BadVillage" CB "village" := by
    obtain ⟨fI, fd, a, b, c⟩ := eB.ini
    exact ⟨eB.m, eB.T, ⟨fI, fd, ["self", "village"], a, b, ok_initV c eB.T eB.no, (c.binds (ps := ["self", "village"]) fun _ _ _ _ _ _ us hl => match us, hl with | [_, _], _ => rfl)⟩⟩
  have xP : ExF P w K mg base "BadPurse" CP "purse" := by
    obtain ⟨fI, fd, a, b, c⟩ := eP.ini
    exact ⟨eP.m, eP.T, ⟨fI, fd, ["self", "purse"], a, b, ok_initP c eP.T eP.no, (c.binds (ps := ["self", "purse"]) fun _ _ _ _ _ _ us hl => match us, hl with | [_, _], _ => rfl)⟩⟩
  have xR : ExF P w K mg base "BadReading" CR "reading" := by
    obtain ⟨fI, fd, a, b, c⟩ := eR.ini
    exact ⟨eR.m, eR.T, ⟨fI, fd, ["self", "reading"], a, b, ok_initR c eR.T eR.no, (c.binds (ps := ["self", "reading"]) fun _ _ _ _ _ _ us hl => match us, hl with | [_, _], _ => rfl)⟩⟩
  have xT : ExF P w K mg base "BadText" CT "line" := by
    obtain ⟨fI, fd, a, b, c⟩ := eT.ini
    exact ⟨eT.m, eT.T, ⟨fI, fd, ["self", "line"], a, b, ok_initT c eT.T eT.no, (c.binds (ps := ["self", "line"]) fun _ _ _ _ _ _ us hl => match us, hl with | [_, _], _ => rfl)⟩⟩
  have b_is_list : Binds K fd_is_list ["thing"] [] := (d_is_list.F.binds (ps := ["thing"]) fun _ _ _ _ _ _ us hl => match us, hl with | [_], _ => rfl)
  have o_is_list : OkF P w K mg base 1 f_is_list ["thing"] (Sp_is_list C) := ⟨⟨_, ok_is_list d_is_list.F N v, b_is_list⟩, d_is_list.F.kp⟩
  have b_is_whole : Binds K fd_is_whole ["thing"] [] := (d_is_whole.F.binds (ps := ["thing"]) fun _ _ _ _ _ _ us hl => match us, hl with | [_], _ => rfl)
  have o_is_whole : OkF P w K mg base 1 f_is_whole ["thing"] (Sp_is_whole C) := ⟨⟨_, ok_is_whole d_is_whole.F N v, b_is_whole⟩, d_is_whole.F.kp⟩
  have b_is_number : Binds K fd_is_number ["thing"] [] := (d_is_number.F.binds (ps := ["thing"]) fun _ _ _ _ _ _ us hl => match us, hl with | [_], _ => rfl)
  have o_is_number : OkF P w K mg base 2 f_is_number ["thing"] (Sp_is_number C) := ⟨⟨_, ok_is_number d_is_number.F N v d_is_whole.g o_is_whole, b_is_number⟩, d_is_number.F.kp⟩
  have b_is_row : Binds K fd_is_row ["thing", "many"] [] := (d_is_row.F.binds (ps := ["thing", "many"]) fun _ _ _ _ _ _ us hl => match us, hl with | [_, _], _ => rfl)
  have o_is_row : OkF P w K mg base 2 f_is_row ["thing", "many"] (Sp_is_row C) := ⟨⟨_, ok_is_row d_is_row.F N v d_is_list.g o_is_list, b_is_row⟩, d_is_row.F.kp⟩
  have b_is_name : Binds K fd_is_name ["thing"] [] := (d_is_name.F.binds (ps := ["thing"]) fun _ _ _ _ _ _ us hl => match us, hl with | [_], _ => rfl)
  have o_is_name : OkF P w K mg base 1 f_is_name ["thing"] Sp_is_name := ⟨⟨_, ok_is_name d_is_name.F N gL C v, b_is_name⟩, d_is_name.F.kp⟩
  have b_first_bad_house : Binds K fd_first_bad_house ["houses"] [] := (d_first_bad_house.F.binds (ps := ["houses"]) fun _ _ _ _ _ _ us hl => match us, hl with | [_], _ => rfl)
  have o_first_bad_house : OkF P w K mg base 2 f_first_bad_house ["houses"] Sp_first_bad_house := ⟨⟨_, ok_first_bad_house d_first_bad_house.F N d_is_list.g o_is_list d_is_name.g o_is_name, b_first_bad_house⟩, d_first_bad_house.F.kp⟩
  have b_is_house : Binds K fd_is_house ["village", "thing"] [] := (d_is_house.F.binds (ps := ["village", "thing"]) fun _ _ _ _ _ _ us hl => match us, hl with | [_, _], _ => rfl)
  have o_is_house : OkF P w K mg base 1 f_is_house ["village", "thing"] (Sp_is_house C) := ⟨⟨_, ok_is_house d_is_house.F N T, b_is_house⟩, d_is_house.F.kp⟩
  have b_check_village : Binds K fd_check_village ["village"] [] := (d_check_village.F.binds (ps := ["village"]) fun _ _ _ _ _ _ us hl => match us, hl with | [_], _ => rfl)
  have o_check_village : OkX P w K mg base 3 f_check_village ["village"] (Sp_check_village C CB) := ⟨⟨_, ok_check_village d_check_village.F N v gV xB, b_check_village⟩, d_check_village.F.kp⟩
  have b_degree_of : Binds K fd_degree_of ["village", "house"] [] := (d_degree_of.F.binds (ps := ["village", "house"]) fun _ _ _ _ _ _ us hl => match us, hl with | [_, _], _ => rfl)
  have o_degree_of : OkF P w K mg base 2 f_degree_of ["village", "house"] (Sp_degree_of C) := ⟨⟨_, ok_degree_of d_degree_of.F N T, b_degree_of⟩, d_degree_of.F.kp⟩
  have b_is_counts : Binds K fd_is_counts ["village", "thing"] [] := (d_is_counts.F.binds (ps := ["village", "thing"]) fun _ _ _ _ _ _ us hl => match us, hl with | [_, _], _ => rfl)
  have o_is_counts : OkF P w K mg base 2 f_is_counts ["village", "thing"] (Sp_is_counts C) := ⟨⟨_, ok_is_counts d_is_counts.F N T d_is_house.g o_is_house d_is_whole.g o_is_whole, b_is_counts⟩, d_is_counts.F.kp⟩
  have b_check_purse : Binds K fd_check_purse ["village", "purse"] [] := (d_check_purse.F.binds (ps := ["village", "purse"]) fun _ _ _ _ _ _ us hl => match us, hl with | [_, _], _ => rfl)
  have o_check_purse : OkX P w K mg base 4 f_check_purse ["village", "purse"] (Sp_check_purse C CB CP) := ⟨⟨_, ok_check_purse d_check_purse.F N T d_check_village.g o_check_village xP d_is_counts.g o_is_counts, b_check_purse⟩, d_check_purse.F.kp⟩
  have b_behind : Binds K fd_behind ["village", "purse", "script"] [] := (d_behind.F.binds (ps := ["village", "purse", "script"]) fun _ _ _ _ _ _ us hl => match us, hl with | [_, _, _], _ => rfl)
  have o_behind : OkF P w K mg base 3 f_behind ["village", "purse", "script"] (Sp_behind C) := ⟨⟨_, ok_behind d_behind.F N T d_degree_of.g o_degree_of, b_behind⟩, d_behind.F.kp⟩
  have b_is_reading_of : Binds K fd_is_reading_of ["village", "thing"] [] := (d_is_reading_of.F.binds (ps := ["village", "thing"]) fun _ _ _ _ _ _ us hl => match us, hl with | [_, _], _ => rfl)
  have o_is_reading_of : OkF P w K mg base 4 f_is_reading_of ["village", "thing"] (Sp_is_reading_of C) := ⟨⟨_, ok_is_reading_of d_is_reading_of.F N T d_is_row.g o_is_row d_is_whole.g o_is_whole d_is_counts.g o_is_counts d_is_number.g o_is_number d_behind.g o_behind, b_is_reading_of⟩, d_is_reading_of.F.kp⟩
  have b_integer_of : Binds K fd_integer_of ["word"] [] := (d_integer_of.F.binds (ps := ["word"]) fun _ _ _ _ _ _ us hl => match us, hl with | [_], _ => rfl)
  have o_integer_of : OkF P w K mg base 2 f_integer_of ["word"] Sp_integer_of := ⟨⟨_, ok_integer_of d_integer_of.F N, b_integer_of⟩, d_integer_of.F.kp⟩
  have b_lines_of : Binds K fd_lines_of ["text"] [] := (d_lines_of.F.binds (ps := ["text"]) fun _ _ _ _ _ _ us hl => match us, hl with | [_], _ => rfl)
  have o_lines_of : OkX P w K mg base 3 f_lines_of ["text"] (Sp_lines_of C CT) := ⟨⟨_, ok_lines_of d_lines_of.F N v xT, b_lines_of⟩, d_lines_of.F.kp⟩
  have b_modulus_of : Binds K fd_modulus_of ["line"] [] := (d_modulus_of.F.binds (ps := ["line"]) fun _ _ _ _ _ _ us hl => match us, hl with | [_], _ => rfl)
  have o_modulus_of : OkF P w K mg base 3 f_modulus_of ["line"] Sp_modulus_of := ⟨⟨_, ok_modulus_of d_modulus_of.F N d_integer_of.g o_integer_of, b_modulus_of⟩, d_modulus_of.F.kp⟩
  have b_read_reading : Binds K fd_read_reading ["village", "text"] [] := (d_read_reading.F.binds (ps := ["village", "text"]) fun _ _ _ _ _ _ us hl => match us, hl with | [_, _], _ => rfl)
  have o_read_reading : OkX P w K mg base 5 f_read_reading ["village", "text"] (Sp_read_reading C CB CT) := ⟨⟨_, ok_read_reading d_read_reading.F N T xT d_check_village.g o_check_village d_lines_of.g o_lines_of d_modulus_of.g o_modulus_of d_integer_of.g o_integer_of d_is_reading_of.g o_is_reading_of, b_read_reading⟩, d_read_reading.F.kp⟩
  have b_rows_text : Binds K fd_rows_text ["rows"] [] := (d_rows_text.F.binds (ps := ["rows"]) fun _ _ _ _ _ _ us hl => match us, hl with | [_], _ => rfl)
  have o_rows_text : OkF P w K mg base 2 f_rows_text ["rows"] Sp_rows_text := ⟨⟨_, ok_rows_text d_rows_text.F N, b_rows_text⟩, d_rows_text.F.kp⟩
  have b_ordered : Binds K fd_ordered ["village", "purse"] [] := (d_ordered.F.binds (ps := ["village", "purse"]) fun _ _ _ _ _ _ us hl => match us, hl with | [_, _], _ => rfl)
  have o_ordered : OkF P w K mg base 2 f_ordered ["village", "purse"] (Sp_ordered C) := ⟨⟨_, ok_ordered d_ordered.F N T, b_ordered⟩, d_ordered.F.kp⟩
  have b_reading_text : Binds K fd_reading_text ["village", "reading"] [] := (d_reading_text.F.binds (ps := ["village", "reading"]) fun _ _ _ _ _ _ us hl => match us, hl with | [_, _], _ => rfl)
  have o_reading_text : OkX P w K mg base 5 f_reading_text ["village", "reading"] (Sp_reading_text C CB CR) := ⟨⟨_, ok_reading_text d_reading_text.F N T xR d_check_village.g o_check_village d_is_reading_of.g o_is_reading_of d_ordered.g o_ordered d_rows_text.g o_rows_text, b_reading_text⟩, d_reading_text.F.kp⟩
  have b_village_text : Binds K fd_village_text ["village"] [] := (d_village_text.F.binds (ps := ["village"]) fun _ _ _ _ _ _ us hl => match us, hl with | [_], _ => rfl)
  have o_village_text : OkX P w K mg base 4 f_village_text ["village"] (Sp_village_text C CB) := ⟨⟨_, ok_village_text d_village_text.F d_check_village.g o_check_village, b_village_text⟩, d_village_text.F.kp⟩
  have b_read_purse : Binds K fd_read_purse ["village", "text"] [] := (d_read_purse.F.binds (ps := ["village", "text"]) fun _ _ _ _ _ _ us hl => match us, hl with | [_, _], _ => rfl)
  have o_read_purse : OkX P w K mg base 4 f_read_purse ["village", "text"] (Sp_read_purse C CB) := ⟨⟨_, ok_read_purse d_read_purse.F d_check_village.g o_check_village, b_read_purse⟩, d_read_purse.F.kp⟩
  have b_purse_text : Binds K fd_purse_text ["village", "purse"] [] := (d_purse_text.F.binds (ps := ["village", "purse"]) fun _ _ _ _ _ _ us hl => match us, hl with | [_, _], _ => rfl)
  have o_purse_text : OkX P w K mg base 5 f_purse_text ["village", "purse"] (Sp_check_purse C CB CP) := ⟨⟨_, ok_purse_text d_purse_text.F d_check_purse.g o_check_purse, b_purse_text⟩, d_purse_text.F.kp⟩
  have b_law_draw : Binds K fd_law_draw ["stream", "many"] [] := (d_law_draw.F.binds (ps := ["stream", "many"]) fun _ _ _ _ _ _ us hl => match us, hl with | [_, _], _ => rfl)
  have o_law_draw : OkF P w K mg base 1 f_law_draw ["stream", "many"] Sp_draw := ⟨⟨_, ok_draw d_law_draw.F N, b_law_draw⟩, d_law_draw.F.kp⟩
  have b_law_pick : Binds K fd_law_pick ["stream", "things"] [] := (d_law_pick.F.binds (ps := ["stream", "things"]) fun _ _ _ _ _ _ us hl => match us, hl with | [_, _], _ => rfl)
  have o_law_pick : OkF P w K mg base 2 f_law_pick ["stream", "things"] Sp_pick := ⟨⟨_, ok_pick d_law_pick.F N d_law_draw.g o_law_draw, b_law_pick⟩, d_law_pick.F.kp⟩
  have b_law_mixed : Binds K fd_law_mixed ["stream", "things"] [] := (d_law_mixed.F.binds (ps := ["stream", "things"]) fun _ _ _ _ _ _ us hl => match us, hl with | [_, _], _ => rfl)
  have o_law_mixed : OkF P w K mg base 2 f_law_mixed ["stream", "things"] Sp_mixed := ⟨⟨_, ok_mixed d_law_mixed.F N d_law_draw.g o_law_draw, b_law_mixed⟩, d_law_mixed.F.kp⟩
  have b_law_loose : Binds K fd_law_loose ["stream", "thing"] [] := (d_law_loose.F.binds (ps := ["stream", "thing"]) fun _ _ _ _ _ _ us hl => match us, hl with | [_, _], _ => rfl)
  have o_law_loose : OkF P w K mg base 4 f_law_loose ["stream", "thing"] (Sp_loose C 2) := ⟨⟨_, ok_loose d_law_loose.F N v d_law_draw.g o_law_draw d_law_loose.g b_law_loose d_law_loose.F.kp 2 (by decide), b_law_loose⟩, d_law_loose.F.kp⟩
  have b_law_copied : Binds K fd_law_copied ["thing"] [] := (d_law_copied.F.binds (ps := ["thing"]) fun _ _ _ _ _ _ us hl => match us, hl with | [_], _ => rfl)
  have o_law_copied : OkF P w K mg base 4 f_law_copied ["thing"] (Sp_copied C 2) := ⟨⟨_, ok_copied d_law_copied.F N v d_law_copied.g b_law_copied d_law_copied.F.kp 2, b_law_copied⟩, d_law_copied.F.kp⟩
  have b_law_names : Binds K fd_law_names ["stream", "many"] [] := (d_law_names.F.binds (ps := ["stream", "many"]) fun _ _ _ _ _ _ us hl => match us, hl with | [_, _], _ => rfl)
  have o_law_names : OkF P w K mg base 3 f_law_names ["stream", "many"] Sp_names := ⟨⟨_, ok_names d_law_names.F N d_law_draw.g o_law_draw d_law_pick.g o_law_pick, b_law_names⟩, d_law_names.F.kp⟩
  have b_law_is_counts : Binds K fd_law_is_counts ["village", "thing"] [] := (d_law_is_counts.F.binds (ps := ["village", "thing"]) fun _ _ _ _ _ _ us hl => match us, hl with | [_, _], _ => rfl)
  have o_law_is_counts : OkF P w K mg base 1 f_law_is_counts ["village", "thing"] (Sp_law_is_counts C) := ⟨⟨_, ok_law_is_counts d_law_is_counts.F N v, b_law_is_counts⟩, d_law_is_counts.F.kp⟩
  have b_law_behind : Binds K fd_law_behind ["village", "purse", "script"] [] := (d_law_behind.F.binds (ps := ["village", "purse", "script"]) fun _ _ _ _ _ _ us hl => match us, hl with | [_, _, _], _ => rfl)
  have o_law_behind : OkF P w K mg base 1 f_law_behind ["village", "purse", "script"] Sp_law_behind := ⟨⟨_, ok_law_behind d_law_behind.F N, b_law_behind⟩, d_law_behind.F.kp⟩
  have b_law_is_reading : Binds K fd_law_is_reading ["village", "thing"] [] := (d_law_is_reading.F.binds (ps := ["village", "thing"]) fun _ _ _ _ _ _ us hl => match us, hl with | [_, _], _ => rfl)
  have o_law_is_reading : OkF P w K mg base 2 f_law_is_reading ["village", "thing"] (Sp_law_is_reading C) := ⟨⟨_, ok_law_is_reading d_law_is_reading.F N v d_law_is_counts.g o_law_is_counts d_law_behind.g o_law_behind, b_law_is_reading⟩, d_law_is_reading.F.kp⟩
  have b_law_integer : Binds K fd_law_integer ["word"] [] := (d_law_integer.F.binds (ps := ["word"]) fun _ _ _ _ _ _ us hl => match us, hl with | [_], _ => rfl)
  have o_law_integer : OkF P w K mg base 2 f_law_integer ["word"] Sp_integer_of := ⟨⟨_, ok_law_integer d_law_integer.F N, b_law_integer⟩, d_law_integer.F.kp⟩
  have b_law_read_so : Binds K fd_law_read_so ["village", "text"] [] := (d_law_read_so.F.binds (ps := ["village", "text"]) fun _ _ _ _ _ _ us hl => match us, hl with | [_, _], _ => rfl)
  have o_law_read_so : OkF P w K mg base 3 f_law_read_so ["village", "text"] (Sp_read_so C) := ⟨⟨_, ok_read_so d_law_read_so.F N v d_law_integer.g o_law_integer d_law_is_reading.g o_law_is_reading, b_law_read_so⟩, d_law_read_so.F.kp⟩
  have b_law_readings : Binds K fd_law_readings ["stream", "village"] [] := (d_law_readings.F.binds (ps := ["stream", "village"]) fun _ _ _ _ _ _ us hl => match us, hl with | [_, _], _ => rfl)
  have o_law_readings : OkF P w K mg base 3 f_law_readings ["stream", "village"] Sp_readings := ⟨⟨_, ok_readings d_law_readings.F N d_law_draw.g o_law_draw d_law_mixed.g o_law_mixed d_law_is_reading.g o_law_is_reading, b_law_readings⟩, d_law_readings.F.kp⟩
  have b_law_bent : Binds K fd_law_bent ["stream", "text"] [] := (d_law_bent.F.binds (ps := ["stream", "text"]) fun _ _ _ _ _ _ us hl => match us, hl with | [_, _], _ => rfl)
  have o_law_bent : OkF P w K mg base 3 f_law_bent ["stream", "text"] Sp_bent := ⟨⟨_, ok_bent d_law_bent.F N d_law_draw.g o_law_draw d_law_pick.g o_law_pick, b_law_bent⟩, d_law_bent.F.kp⟩
  have b_law_stream : Binds K fd_law_stream ["script"] [] := (d_law_stream.F.binds (ps := ["script"]) fun _ _ _ _ _ _ us hl => match us, hl with | [_], _ => rfl)
  have o_law_stream : OkF P w K mg base 1 f_law_stream ["script"] (Sp_stream2 K) := ⟨⟨_, ok_stream2 d_law_stream.F N, b_law_stream⟩, d_law_stream.F.kp⟩
  have b_law_same : Binds K fd_law_same ["found", "due"] [] := (d_law_same.F.binds (ps := ["found", "due"]) fun _ _ _ _ _ _ us hl => match us, hl with | [_, _], _ => rfl)
  have o_law_same : OkF P w K mg base 9 f_law_same ["found", "due"] (Sp_same 8) := ⟨⟨_, ok_same d_law_same.F N v d_law_same.g b_law_same d_law_same.F.kp 8, b_law_same⟩, d_law_same.F.kp⟩
  have b_law_village : Binds K fd_law_village ["stream", "houses", "lanes"] [] := (d_law_village.F.binds (ps := ["stream", "houses", "lanes"]) fun _ _ _ _ _ _ us hl => match us, hl with | [_, _, _], _ => rfl)
  have o_law_village : OkF P w K mg base 4 f_law_village ["stream", "houses", "lanes"] Sp_village := ⟨⟨_, ok_village d_law_village.F N d_law_draw.g o_law_draw d_law_pick.g o_law_pick d_law_mixed.g o_law_mixed d_law_names.g o_law_names, b_law_village⟩, d_law_village.F.kp⟩
  have b_law_made : Binds K fd_law_made ["stream", "village"] [] := (d_law_made.F.binds (ps := ["stream", "village"]) fun _ _ _ _ _ _ us hl => match us, hl with | [_, _], _ => rfl)
  have oL : OkM P w K mg base 3 C "is_lane" fL' ["self", "thing"] (Sp_is_lane C) := ⟨⟨_, ok_is_lane dL.F N T d_is_row.g o_is_row, (dL.F.binds (ps := ["self", "thing"]) fun _ _ _ _ _ _ us hl => match us, hl with | [_, _], _ => rfl)⟩, dL.mt⟩
  have oF : OkM P w K mg base 1 C "first_lost" fF ["self"] (Sp_first_lost C) := ⟨⟨_, ok_first_lost dF.F N T, (dF.F.binds (ps := ["self"]) fun _ _ _ _ _ _ us hl => match us, hl with | [_], _ => rfl)⟩, dF.mt⟩
  have oN : OkNew P w K mg base 4 "Village" C ["self", "houses", "lanes"] (Sp_init C) := ⟨⟨_, _, dI.made, ok_init dI.F N T d_first_bad_house.g o_first_bad_house d_is_list.g o_is_list oL oF, (dI.F.binds (ps := ["self", "houses", "lanes"]) fun _ _ _ _ _ _ us hl => match us, hl with | [_, _, _], _ => rfl)⟩, gV⟩
  have o_law_made : OkF P w K mg base 6 f_law_made ["stream", "village"] (Sp_made C) := ⟨⟨_, ok_made d_law_made.F N d_law_mixed.g o_law_mixed d_law_loose.g o_law_loose oN, b_law_made⟩, d_law_made.F.kp⟩
  have b_law_met : Binds K fd_law_met ["ask"] [] := (d_law_met.F.binds (ps := ["ask"]) fun _ _ _ _ _ _ us hl => match us, hl with | [_], _ => rfl)
  have b_law_refusal : Binds K fd_law_refusal ["ask"] [] := (d_law_refusal.F.binds (ps := ["ask"]) fun _ _ _ _ _ _ us hl => match us, hl with | [_], _ => rfl)
  have k_read_reading : OkXK P w K mg base 5 f_read_reading ["village", "text"] ["text", "village"] (Sp_read_reading C CB CT) := by
    obtain ⟨⟨fd', G, _⟩, kp⟩ := o_read_reading
    exact ⟨⟨_, ok_read_reading d_read_reading.F N T xT d_check_village.g o_check_village d_lines_of.g o_lines_of d_modulus_of.g o_modulus_of d_integer_of.g o_integer_of d_is_reading_of.g o_is_reading_of, kb_read d_read_reading.F⟩, d_read_reading.F.kp⟩
  have k_reading_text : OkXK P w K mg base 5 f_reading_text ["village", "reading"] ["reading", "village"] (Sp_reading_text C CB CR) := by
    obtain ⟨⟨fd', G, _⟩, kp⟩ := o_reading_text
    exact ⟨⟨_, ok_reading_text d_reading_text.F N T xR d_check_village.g o_check_village d_is_reading_of.g o_is_reading_of d_ordered.g o_ordered d_rows_text.g o_rows_text, kb_text d_reading_text.F⟩, d_reading_text.F.kp⟩
  have ex1 : Exc2 K CB CP "village" "purse" := ⟨⟨eB.xf, eB.no⟩, ⟨eP.xf, eP.no⟩, eB.m11, xPB, eP.m11⟩
  have ex2 : Exc2 K CT CR "line" "reading" := ⟨⟨eT.xf, eT.no⟩, ⟨eR.xf, eR.no⟩, eT.m11, xRT, eR.m11⟩
  have oRf : OkF P w K mg base 10 fR ["stream", "village", "made"] (Sp_refused C [(P1, q_law), (P2, q_refd)]) := ⟨⟨_, ok_refused (c0 := 0) FR N B2 (by simp) (fun p hp e => by
    simp only [List.mem_cons, List.not_mem_nil, or_false] at hp
    rcases hp with rfl | rfl
    · exact absurd e ne
    · rfl) d_law_refusal.F d_law_refusal.g b_law_refusal eB.m eP.m ex1 d_law_pick.g o_law_pick d_law_same.g o_law_same d_village_text.g o_village_text d_purse_text.g o_purse_text d_read_purse.g o_read_purse d_reading_text.g o_reading_text d_read_reading.g o_read_reading, FR.binds (ps := ["stream", "village", "made"]) fun _ _ _ _ _ us hl => match us, hl with | [_, _, _], _ => rfl⟩, FR.kp⟩
  exact ok_law (a16 := 0) (CP := CP) FL N v B1 (by simp) (fun p hp e => by
    simp only [List.mem_cons, List.not_mem_nil, or_false] at hp
    rcases hp with rfl | rfl
    · rfl
    · exact absurd e.symm ne) d_law_met.F d_law_met.g b_law_met eT.m eR.m ex2 d_law_stream.g o_law_stream d_law_pick.g o_law_pick d_law_village.g o_law_village d_law_made.g o_law_made gR oRf d_law_readings.g o_law_readings d_law_loose.g o_law_loose d_law_mixed.g o_law_mixed d_law_same.g o_law_same d_law_copied.g o_law_copied d_reading_text.g o_reading_text k_reading_text d_read_reading.g o_read_reading k_read_reading d_law_bent.g o_law_bent d_law_read_so.g o_law_read_so d_law_is_reading.g o_law_is_reading
end
end Pg

namespace Pg
open PySem PySem.Spec PyProof.Rows L2 DL RX RZ LiI LamX TA
theorem law_at {l : PySem.W.OpenLaw} {w : World} {K : PySem.W.Frag} {mg : Str → Option Value} {h : Heap} {fa C CB CP CR CT P1 P2 fL fR cL cR : Addr} {t : Nat} (X : K.In h) (G : h.Ns mainGlobals mg) (hfa : mg "law" = some (.ref fa)) (aL : PySem.W.nsIn K mainGlobals "law" = some (some (.ref fL))) (aR : PySem.W.nsIn K mainGlobals "_law_are_refused" = some (some (.ref fR)))
    (FL : ∃ fd, FunC K "law" "law" s_law fL fd cL) (FR : ∃ fd, FunC K "_law_are_refused" "_law_are_refused" s_law_are_refused fR fd cR) (d1 : PySem.W.codeHdIn K cL P1 = true) (d2 : PySem.W.codeHdIn K cR P2 = true) (t1 : h.get? P1 = some (PySem.W.tabObj #[])) (t2 : h.get? P2 = some (PySem.W.tabObj #[])) (n1 : K.lookup P1 = none) (n2 : K.lookup P2 = none) (ne : P1 ≠ P2)
    (aC : PySem.W.nsIn K mainGlobals "Village" = some (some (.ref C))) (N : Bn mg) (T : VlF K C) (gL : mg "LETTERS" = some (.str letters t)) (hI : ∃ f fd, I1 K C "Village.__init__" s_Village_init f fd) (hL : ∃ f fd, M1 K C "is_lane" "Village.is_lane" s_Village_is_lane f fd) (hF : ∃ f fd, M1 K C "first_lost" "Village.first_lost" s_Village_first_lost f fd)
    (eB : E1 K mg "BadVillage" "village" "BadVillage.__init__" s_BadVillage_init CB) (eP : E1 K mg "BadPurse" "purse" "BadPurse.__init__" s_BadPurse_init CP) (eR : E1 K mg "BadReading" "reading" "BadReading.__init__" s_BadReading_init CR) (eT : E1 K mg "BadText" "line" "BadText.__init__" s_BadText_init CT)
    (xPB : PySem.W.exmOne K (.ref CP) (.ref CB) = some false) (xRT : PySem.W.exmOne K (.ref CR) (.ref CT) = some false)
    (h_is_list : ∃ f fd, D1 K mg "is_list" s_is_list f fd) (h_is_whole : ∃ f fd, D1 K mg "is_whole" s_is_whole f fd) (h_is_number : ∃ f fd, D1 K mg "is_number" s_is_number f fd) (h_is_row : ∃ f fd, D1 K mg "is_row" s_is_row f fd) (h_is_name : ∃ f fd, D1 K mg "is_name" s_is_name f fd) (h_first_bad_house : ∃ f fd, D1 K mg "first_bad_house" s_first_bad_house f fd) (h_is_house : ∃ f fd, D1 K mg "is_house" s_is_house f fd) (h_check_village : ∃ f fd, D1 K mg "check_village" s_check_village f fd) (h_degree_of : ∃ f fd, D1 K mg "degree_of" s_degree_of f fd) (h_is_counts : ∃ f fd, D1 K mg "is_counts" s_is_counts f fd) (h_check_purse : ∃ f fd, D1 K mg "check_purse" s_check_purse f fd) (h_behind : ∃ f fd, D1 K mg "behind" s_behind f fd) (h_is_reading_of : ∃ f fd, D1 K mg "is_reading_of" s_is_reading_of f fd) (h_integer_of : ∃ f fd, D1 K mg "integer_of" s_integer_of f fd) (h_lines_of : ∃ f fd, D1 K mg "lines_of" s_lines_of f fd) (h_modulus_of : ∃ f fd, D1 K mg "modulus_of" s_modulus_of f fd) (h_read_reading : ∃ f fd, D1 K mg "read_reading" s_read_reading f fd) (h_rows_text : ∃ f fd, D1 K mg "rows_text" s_rows_text f fd) (h_ordered : ∃ f fd, D1 K mg "ordered" s_ordered f fd) (h_reading_text : ∃ f fd, D1 K mg "reading_text" s_reading_text f fd) (h_village_text : ∃ f fd, D1 K mg "village_text" s_village_text f fd) (h_read_purse : ∃ f fd, D1 K mg "read_purse" s_read_purse f fd) (h_purse_text : ∃ f fd, D1 K mg "purse_text" s_purse_text f fd) (h_law_draw : ∃ f fd, D1 K mg "_law_draw" s_law_draw f fd) (h_law_pick : ∃ f fd, D1 K mg "_law_pick" s_law_pick f fd) (h_law_mixed : ∃ f fd, D1 K mg "_law_mixed" s_law_mixed f fd) (h_law_loose : ∃ f fd, D1 K mg "_law_loose" s_law_loose f fd) (h_law_copied : ∃ f fd, D1 K mg "_law_copied" s_law_copied f fd) (h_law_names : ∃ f fd, D1 K mg "_law_names" s_law_names f fd) (h_law_is_counts : ∃ f fd, D1 K mg "_law_is_counts" s_law_is_counts f fd) (h_law_behind : ∃ f fd, D1 K mg "_law_behind" s_law_behind f fd) (h_law_is_reading : ∃ f fd, D1 K mg "_law_is_reading" s_law_is_reading f fd) (h_law_integer : ∃ f fd, D1 K mg "_law_integer" s_law_integer f fd) (h_law_read_so : ∃ f fd, D1 K mg "_law_read_so" s_law_read_so f fd) (h_law_readings : ∃ f fd, D1 K mg "_law_readings" s_law_readings f fd) (h_law_bent : ∃ f fd, D1 K mg "_law_bent" s_law_bent f fd) (h_law_stream : ∃ f fd, D1 K mg "_law_stream" s_law_stream f fd) (h_law_same : ∃ f fd, D1 K mg "_law_same" s_law_same f fd) (h_law_village : ∃ f fd, D1 K mg "_law_village" s_law_village f fd) (h_law_made : ∃ f fd, D1 K mg "_law_made" s_law_made f fd) (h_law_met : ∃ f fd, D1 K mg "_law_met" s_law_met f fd) (h_law_refusal : ∃ f fd, D1 K mg "_law_refusal" s_law_refusal f fd) : LawAtS l w K CX0 11 63 "script" mg fa h := by
  have e := hfa.symm.trans (PySem.W.mg_of X G aL)
  cases e
  obtain ⟨fdL, FL⟩ := FL
  obtain ⟨fdR, FR⟩ := FR
  have hb : ∀ (s : Shared) (u : Value), BindsTo s fdL ⟨[u], []⟩ [("script", u)] := by
    obtain ⟨oc, od, kV, doc, pm, an, ct, osl, rfl, lk, hcd⟩ := FL.ex
    exact fun s u => .of_eq rfl
  refine ⟨fdL, [(cL, P1), (cR, P2)], Sp_law K [(P1, q_law), (P2, q_refd)], fun p hp => ?_, fun p hp => ?_, fun p hp => ?_, hb, fun H a ns _ _ hH hS => ⟨a, ns, rfl, hS, fun p hp => ?_, fun _ => rfl⟩, fun base KB NB TB => ?_⟩
  · simp only [List.mem_cons, List.not_mem_nil, or_false] at hp
    rcases hp with rfl | rfl
    · exact t1
    · exact t2
  · simp only [List.mem_cons, List.not_mem_nil, or_false] at hp
    rcases hp with rfl | rfl
    · exact n1
    · exact n2
  · simp only [List.mem_cons, List.not_mem_nil, or_false] at hp
    rcases hp with rfl | rfl
    · exact PySem.W.codeHd_of_K X d1
    · exact PySem.W.codeHd_of_K X d2
  · simp only [List.mem_cons, List.not_mem_nil, or_false] at hp
    rcases hp with rfl | rfl
    · exact hH (cL, P1) (by simp)
    · exact hH (cR, P2) (by simp)
  · exact law_all N T (PySem.W.mg_of X G aC) gL hI hL hF eB eP eR eT xPB xRT h_is_list h_is_whole h_is_number h_is_row h_is_name h_first_bad_house h_is_house h_check_village h_degree_of h_is_counts h_check_purse h_behind h_is_reading_of h_integer_of h_lines_of h_modulus_of h_read_reading h_rows_text h_ordered h_reading_text h_village_text h_read_purse h_purse_text h_law_draw h_law_pick h_law_mixed h_law_loose h_law_copied h_law_names h_law_is_counts h_law_behind h_law_is_reading h_law_integer h_law_read_so h_law_readings h_law_bent h_law_stream h_law_same h_law_village h_law_made h_law_met h_law_refusal FL FR (PySem.W.mg_of X G aR) ne (TB (cL, P1) (by simp)) (TB (cR, P2) (by simp))
end Pg

open PySem PySem.W PyProof.Rows in
set_option maxRecDepth 100000 in
set_option maxHeartbeats 0 in
theorem PySem.Challenge.cw_lentaround_k99_whole_readings_as_texts_holds : PySem.Challenge.rw_lentaround_k99_whole_readings_as_texts.Holds := by
  w_on; o_law; k_head; (case hw => w_witness2)
  k_fill
  refine LamX.walk_ofTs (l := PySem.Challenge.rw_lentaround_k99_whole_readings_as_texts) (n := 63) (k := 11) (x := "script") (CX := fun _ => L2.CX0) rfl (by decide) rfl ⟨rfl, by decide, by decide⟩ (fun w h Y => PySem.W.km_in_of Y) ?F ?hCX
  case hCX => exact fun _ _ _ _ _ z => z
  case F =>
    intro w mg fa h Y KX G hmg
    have hT8 := PySem.W.km_tabs_of Y
    clear Y
    refine' Pg.law_at (P1 := 492) (P2 := 485) KX G hmg ?x1
      ?x2
      (Pg.mk_fc ?x3 ?x4 ?x5)
      (Pg.mk_fc ?x6 ?x7 ?x8)
      ?x9
      ?x10
      (hT8 492 (by k_mem))
      (hT8 485 (by k_mem))
      ?x11
      ?x12
      (by decide)
      ?x13
      ⟨PySem.W.mg_none_of KX G ?x14, PySem.W.mg_none_of KX G ?x15, PySem.W.mg_none_of KX G ?x16, PySem.W.mg_none_of KX G ?x17, PySem.W.mg_none_of KX G ?x18, PySem.W.mg_none_of KX G ?x19, PySem.W.mg_none_of KX G ?x20, PySem.W.mg_none_of KX G ?x21, PySem.W.mg_none_of KX G ?x22, PySem.W.mg_none_of KX G ?x23, PySem.W.mg_none_of KX G ?x24, PySem.W.mg_none_of KX G ?x25, PySem.W.mg_none_of KX G ?x26, PySem.W.mg_none_of KX G ?x27, PySem.W.mg_none_of KX G ?x28, PySem.W.mg_none_of KX G ?x29, PySem.W.mg_none_of KX G ?x30⟩
      ⟨⟨⟨⟨?x31, ?x32, ?x33, ?x34⟩, ?x35, ?x36, ?x37, ?x38⟩, ?x39, ?x40, ?x41, ?x42, ?x43, ?x44, ?x45, ?x46, ?x47, ?x48, ?x49, ?x50, ?x51, ?x52⟩, ?x53, ?x54, ?x55⟩
      (PySem.W.mg_of KX G ?x56)
      (Pg.mk_i1 ?x57 ?x58 ?x59 ?x60 ?x61 ?x62 ?x63)
      (Pg.mk_m1 ?x64 ?x65 ?x66 ?x67 ?x68)
      (Pg.mk_m1 ?x69 ?x70 ?x71 ?x72 ?x73)
      (Pg.mk_e1 KX G ?x74 ?x75 ?x76 ?x77 ?x78 ?x79 ?x80 ?x81 ?x82 ?x83 ?x84 ?x85 ?x86 ?x87 ?x88 ?x89 ?x90 ?x91)
      (Pg.mk_e1 KX G ?x92 ?x93 ?x94 ?x95 ?x96 ?x97 ?x98 ?x99 ?x100 ?x101 ?x102 ?x103 ?x104 ?x105 ?x106 ?x107 ?x108 ?x109)
      (Pg.mk_e1 KX G ?x110 ?x111 ?x112 ?x113 ?x114 ?x115 ?x116 ?x117 ?x118 ?x119 ?x120 ?x121 ?x122 ?x123 ?x124 ?x125 ?x126 ?x127)
      (Pg.mk_e1 KX G ?x128 ?x129 ?x130 ?x131 ?x132 ?x133 ?x134 ?x135 ?x136 ?x137 ?x138 ?x139 ?x140 ?x141 ?x142 ?x143 ?x144 ?x145)
      (Pg.exm_at ?x146 ?x147 ?x148 ?x149)
      (Pg.exm_at ?x150 ?x151 ?x152 ?x153)
      (Pg.mk_d1 KX G ?x154 ?x155 ?x156 ?x157)
      (Pg.mk_d1 KX G ?x158 ?x159 ?x160 ?x161)
      (Pg.mk_d1 KX G ?x162 ?x163 ?x164 ?x165)
      (Pg.mk_d1 KX G ?x166 ?x167 ?x168 ?x169)
      (Pg.mk_d1 KX G ?x170 ?x171 ?x172 ?x173)
      (Pg.mk_d1 KX G ?x174 ?x175 ?x176 ?x177)
      (Pg.mk_d1 KX G ?x178 ?x179 ?x180 ?x181)
      (Pg.mk_d1 KX G ?x182 ?x183 ?x184 ?x185)
      (Pg.mk_d1 KX G ?x186 ?x187 ?x188 ?x189)
      (Pg.mk_d1 KX G ?x190 ?x191 ?x192 ?x193)
      (Pg.mk_d1 KX G ?x194 ?x195 ?x196 ?x197)
      (Pg.mk_d1 KX G ?x198 ?x199 ?x200 ?x201)
      (Pg.mk_d1 KX G ?x202 ?x203 ?x204 ?x205)
      (Pg.mk_d1 KX G ?x206 ?x207 ?x208 ?x209)
      (Pg.mk_d1 KX G ?x210 ?x211 ?x212 ?x213)
      (Pg.mk_d1 KX G ?x214 ?x215 ?x216 ?x217)
      (Pg.mk_d1 KX G ?x218 ?x219 ?x220 ?x221)
      (Pg.mk_d1 KX G ?x222 ?x223 ?x224 ?x225)
      (Pg.mk_d1 KX G ?x226 ?x227 ?x228 ?x229)
      (Pg.mk_d1 KX G ?x230 ?x231 ?x232 ?x233)
      (Pg.mk_d1 KX G ?x234 ?x235 ?x236 ?x237)
      (Pg.mk_d1 KX G ?x238 ?x239 ?x240 ?x241)
      (Pg.mk_d1 KX G ?x242 ?x243 ?x244 ?x245)
      (Pg.mk_d1 KX G ?x246 ?x247 ?x248 ?x249)
      (Pg.mk_d1 KX G ?x250 ?x251 ?x252 ?x253)
      (Pg.mk_d1 KX G ?x254 ?x255 ?x256 ?x257)
      (Pg.mk_d1 KX G ?x258 ?x259 ?x260 ?x261)
      (Pg.mk_d1 KX G ?x262 ?x263 ?x264 ?x265)
      (Pg.mk_d1 KX G ?x266 ?x267 ?x268 ?x269)
      (Pg.mk_d1 KX G ?x270 ?x271 ?x272 ?x273)
      (Pg.mk_d1 KX G ?x274 ?x275 ?x276 ?x277)
      (Pg.mk_d1 KX G ?x278 ?x279 ?x280 ?x281)
      (Pg.mk_d1 KX G ?x282 ?x283 ?x284 ?x285)
      (Pg.mk_d1 KX G ?x286 ?x287 ?x288 ?x289)
      (Pg.mk_d1 KX G ?x290 ?x291 ?x292 ?x293)
      (Pg.mk_d1 KX G ?x294 ?x295 ?x296 ?x297)
      (Pg.mk_d1 KX G ?x298 ?x299 ?x300 ?x301)
      (Pg.mk_d1 KX G ?x302 ?x303 ?x304 ?x305)
      (Pg.mk_d1 KX G ?x306 ?x307 ?x308 ?x309)
      (Pg.mk_d1 KX G ?x310 ?x311 ?x312 ?x313)
      (Pg.mk_d1 KX G ?x314 ?x315 ?x316 ?x317)
      (Pg.mk_d1 KX G ?x318 ?x319 ?x320 ?x321)
    (case x1 => k_is)
    (case x2 => k_is)
    (case x3 => k_is)
    (case x4 => k_is)
    (case x5 => k_is)
    (case x6 => k_is)
    (case x7 => k_is)
    (case x8 => k_is)
    (case x9 => kernel_rfl)
    (case x10 => kernel_rfl)
    (case x11 => kernel_rfl)
    (case x12 => kernel_rfl)
    (case x13 => k_is)
    (case x14 => k_is)
    (case x15 => k_is)
    (case x16 => k_is)
    (case x17 => k_is)
    (case x18 => k_is)
    (case x19 => k_is)
    (case x20 => k_is)
    (case x21 => k_is)
    (case x22 => k_is)
    (case x23 => k_is)
    (case x24 => k_is)
    (case x25 => k_is)
    (case x26 => k_is)
    (case x27 => k_is)
    (case x28 => k_is)
    (case x29 => k_is)
    (case x30 => k_is)
    (case x31 => k_is)
    (case x32 => k_is)
    (case x33 => k_is)
    (case x34 => k_is)
    (case x35 => k_is)
    (case x36 => k_is)
    (case x37 => k_is)
    (case x38 => k_is)
    (case x39 => first | k_is | kernel_rfl | decide +kernel)
    (case x40 => first | k_is | kernel_rfl | decide +kernel)
    (case x41 => first | k_is | kernel_rfl | decide +kernel)
    (case x42 => first | k_is | kernel_rfl | decide +kernel)
    (case x43 => first | k_is | kernel_rfl | decide +kernel)
    (case x44 => first | k_is | kernel_rfl | decide +kernel)
    (case x45 => first | k_is | kernel_rfl | decide +kernel)
    (case x46 => first | k_is | kernel_rfl | decide +kernel)
    (case x47 => first | k_is | kernel_rfl | decide +kernel)
    (case x48 => first | k_is | kernel_rfl | decide +kernel)
    (case x49 => first | k_is | kernel_rfl | decide +kernel)
    (case x50 => first | k_is | kernel_rfl | decide +kernel)
    (case x51 => first | k_is | kernel_rfl | decide +kernel)
    (case x52 => first | k_is | kernel_rfl | decide +kernel)
    (case x53 => change PySem.W.findIn _ _ _ = some none; k_is)
    (case x54 => change PySem.W.findIn _ _ _ = some none; k_is)
    (case x55 => change PySem.W.findIn _ _ _ = some none; k_is)
    (case x56 => k_is)
    (case x57 => k_is)
    (case x58 => k_is)
    (case x59 => k_is)
    (case x60 => k_is)
    (case x61 => k_is)
    (case x62 => k_is)
    (case x63 => k_is)
    (case x64 => k_is)
    (case x65 => k_is)
    (case x66 => k_is)
    (case x67 => k_is)
    (case x68 => k_is)
    (case x69 => k_is)
    (case x70 => k_is)
    (case x71 => k_is)
    (case x72 => k_is)
    (case x73 => k_is)
    (case x74 => k_is)
    (case x75 => k_is)
    (case x76 => decide +kernel)
    (case x77 => k_is)
    (case x78 => k_is)
    (case x79 => k_is)
    (case x80 => k_is)
    (case x81 => k_is)
    (case x82 => k_is)
    (case x83 => k_is)
    (case x84 => k_is)
    (case x85 => k_is)
    (case x86 => k_is)
    (case x87 => k_is)
    (case x88 => k_is)
    (case x89 => k_is)
    (case x90 => k_is)
    (case x91 => k_is)
    (case x92 => k_is)
    (case x93 => k_is)
    (case x94 => decide +kernel)
    (case x95 => k_is)
    (case x96 => k_is)
    (case x97 => k_is)
    (case x98 => k_is)
    (case x99 => k_is)
    (case x100 => k_is)
    (case x101 => k_is)
    (case x102 => k_is)
    (case x103 => k_is)
    (case x104 => k_is)
    (case x105 => k_is)
    (case x106 => k_is)
    (case x107 => k_is)
    (case x108 => k_is)
    (case x109 => k_is)
    (case x110 => k_is)
    (case x111 => k_is)
    (case x112 => decide +kernel)
    (case x113 => k_is)
    (case x114 => k_is)
    (case x115 => k_is)
    (case x116 => k_is)
    (case x117 => k_is)
    (case x118 => k_is)
    (case x119 => k_is)
    (case x120 => k_is)
    (case x121 => k_is)
    (case x122 => k_is)
    (case x123 => k_is)
    (case x124 => k_is)
    (case x125 => k_is)
    (case x126 => k_is)
    (case x127 => k_is)
    (case x128 => k_is)
    (case x129 => k_is)
    (case x130 => decide +kernel)
    (case x131 => k_is)
    (case x132 => k_is)
    (case x133 => k_is)
    (case x134 => k_is)
    (case x135 => k_is)
    (case x136 => k_is)
    (case x137 => k_is)
    (case x138 => k_is)
    (case x139 => k_is)
    (case x140 => k_is)
    (case x141 => k_is)
    (case x142 => k_is)
    (case x143 => k_is)
    (case x144 => k_is)
    (case x145 => k_is)
    (case x146 => k_is)
    (case x147 => k_is)
    (case x148 => k_is)
    (case x149 => k_is)
    (case x150 => k_is)
    (case x151 => k_is)
    (case x152 => k_is)
    (case x153 => k_is)
    (case x154 => k_is)
    (case x155 => k_is)
    (case x156 => k_is)
    (case x157 => k_is)
    (case x158 => k_is)
    (case x159 => k_is)
    (case x160 => k_is)
    (case x161 => k_is)
    (case x162 => k_is)
    (case x163 => k_is)
    (case x164 => k_is)
    (case x165 => k_is)
    (case x166 => k_is)
    (case x167 => k_is)
    (case x168 => k_is)
    (case x169 => k_is)
    (case x170 => k_is)
    (case x171 => k_is)
    (case x172 => k_is)
    (case x173 => k_is)
    (case x174 => k_is)
    (case x175 => k_is)
    (case x176 => k_is)
    (case x177 => k_is)
    (case x178 => k_is)
    (case x179 => k_is)
    (case x180 => k_is)
    (case x181 => k_is)
    (case x182 => k_is)
    (case x183 => k_is)
    (case x184 => k_is)
    (case x185 => k_is)
    (case x186 => k_is)
    (case x187 => k_is)
    (case x188 => k_is)
    (case x189 => k_is)
    (case x190 => k_is)
    (case x191 => k_is)
    (case x192 => k_is)
    (case x193 => k_is)
    (case x194 => k_is)
    (case x195 => k_is)
    (case x196 => k_is)
    (case x197 => k_is)
    (case x198 => k_is)
    (case x199 => k_is)
    (case x200 => k_is)
    (case x201 => k_is)
    (case x202 => k_is)
    (case x203 => k_is)
    (case x204 => k_is)
    (case x205 => k_is)
    (case x206 => k_is)
    (case x207 => k_is)
    (case x208 => k_is)
    (case x209 => k_is)
    (case x210 => k_is)
    (case x211 => k_is)
    (case x212 => k_is)
    (case x213 => k_is)
    (case x214 => k_is)
    (case x215 => k_is)
    (case x216 => k_is)
    (case x217 => k_is)
    (case x218 => k_is)
    (case x219 => k_is)
    (case x220 => k_is)
    (case x221 => k_is)
    (case x222 => k_is)
    (case x223 => k_is)
    (case x224 => k_is)
    (case x225 => k_is)
    (case x226 => k_is)
    (case x227 => k_is)
    (case x228 => k_is)
    (case x229 => k_is)
    (case x230 => k_is)
    (case x231 => k_is)
    (case x232 => k_is)
    (case x233 => k_is)
    (case x234 => k_is)
    (case x235 => k_is)
    (case x236 => k_is)
    (case x237 => k_is)
    (case x238 => k_is)
    (case x239 => k_is)
    (case x240 => k_is)
    (case x241 => k_is)
    (case x242 => k_is)
    (case x243 => k_is)
    (case x244 => k_is)
    (case x245 => k_is)
    (case x246 => k_is)
    (case x247 => k_is)
    (case x248 => k_is)
    (case x249 => k_is)
    (case x250 => k_is)
    (case x251 => k_is)
    (case x252 => k_is)
    (case x253 => k_is)
    (case x254 => k_is)
    (case x255 => k_is)
    (case x256 => k_is)
    (case x257 => k_is)
    (case x258 => k_is)
    (case x259 => k_is)
    (case x260 => k_is)
    (case x261 => k_is)
    (case x262 => k_is)
    (case x263 => k_is)
    (case x264 => k_is)
    (case x265 => k_is)
    (case x266 => k_is)
    (case x267 => k_is)
    (case x268 => k_is)
    (case x269 => k_is)
    (case x270 => k_is)
    (case x271 => k_is)
    (case x272 => k_is)
    (case x273 => k_is)
    (case x274 => k_is)
    (case x275 => k_is)
    (case x276 => k_is)
    (case x277 => k_is)
    (case x278 => k_is)
    (case x279 => k_is)
    (case x280 => k_is)
    (case x281 => k_is)
    (case x282 => k_is)
    (case x283 => k_is)
    (case x284 => k_is)
    (case x285 => k_is)
    (case x286 => k_is)
    (case x287 => k_is)
    (case x288 => k_is)
    (case x289 => k_is)
    (case x290 => k_is)
    (case x291 => k_is)
    (case x292 => k_is)
    (case x293 => k_is)
    (case x294 => k_is)
    (case x295 => k_is)
    (case x296 => k_is)
    (case x297 => k_is)
    (case x298 => k_is)
    (case x299 => k_is)
    (case x300 => k_is)
    (case x301 => k_is)
    (case x302 => k_is)
    (case x303 => k_is)
    (case x304 => k_is)
    (case x305 => k_is)
    (case x306 => k_is)
    (case x307 => k_is)
    (case x308 => k_is)
    (case x309 => k_is)
    (case x310 => k_is)
    (case x311 => k_is)
    (case x312 => k_is)
    (case x313 => k_is)
    (case x314 => k_is)
    (case x315 => k_is)
    (case x316 => k_is)
    (case x317 => k_is)
    (case x318 => k_is)
    (case x319 => k_is)
    (case x320 => k_is)
    (case x321 => k_is)
#print axioms PySem.Challenge.cw_lentaround_k99_whole_readings_as_texts_holds
