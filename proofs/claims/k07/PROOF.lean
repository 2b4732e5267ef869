import PyProof.Rows.All
import Wide.All
import OpenK.AllK
import Wide.FinOn
import KE.RegKIsAll
import HandS.ForMost
import HandS.Wide
import HandS.IsInst
import HandS.Style
import HandS.SortInts
import HandS.SortKw
import HandS.Walk
import HandS.Lambda
import KE.KNest
import HandS.Call
import PyProof.ConsumeS
import KE.KMinKey
import HandS.Codes
import KE.SortKeyHeap
import KE.KLam
import HandS.EndBits
import HandS.EndTab
import PySem.Challenge.RW_uprow_k07_answers_by_hand
set_option Elab.async false
set_option linter.all false
set_option maxRecDepth 100000
set_option maxHeartbeats 4000000
/-! DA: plain data for the values of a program, heaps out of sight. -/
namespace DL
open PySem PySem.Spec PyProof.Rows L2
variable {K : PySem.W.Frag}

/-! ## data -/
inductive D where
  | non | bl (b : Bool) | int (i : Int) | str (z : Str) | lst (ds : List D) | tup (ds : List D) | dct | ins (C : Addr) (fs : List (Str × D)) | ty (n : String) | cls (C : Addr) | op (v : V)

/-- a list that is read: tracked, locked, or an object of the written part as lists are made -/
def LsX (K : PySem.W.Frag) (G : Hp) (a : Addr) (vs : List V) : Prop := Rd G a (.lst vs) ∨ ∃ (its : Array Value) (n : Nat), K.lookup a = some { cls := .type "list", data := .seq its n } ∧ its.size ≤ sizeLine ∧ Vals vs its.toList
theorem LsX.of {G : Hp} {a : Addr} {vs : List V} (h : G a = some (.lst vs)) : LsX K G a vs := .inl (.inl h)
theorem LsX.sq {G : Hp} {a : Addr} {vs : List V} (h : LsX K G a vs) : SqL K G a vs := by
  rcases h with h | ⟨its, n, h1, h2, h3⟩
  · exact .inl h
  · exact .inr ⟨_, its, n, h1, rfl, rfl, rfl, h2, h3⟩
mutual
/-- the value is that data, as far as the heap G tells -/
inductive Rep (K : PySem.W.Frag) (G : Hp) : V → D → Prop
  | non : Rep K G .non .non
  | bl (b : Bool) : Rep K G (.bl b) (.bl b)
  | int (i : Int) : Rep K G (.int i) (.int i)
  | str (z : Str) : Rep K G (.str z) (.str z)
  | lst {a : Addr} {vs : List V} {ds : List D} : LsX K G a vs → RepA K G vs ds → Rep K G (.ref a) (.lst ds)
  | tup {a : Addr} {vs : List V} {ds : List D} : Rd G a (.tup vs) → RepA K G vs ds → Rep K G (.ref a) (.tup ds)
  | ty (n : String) : Rep K G (.ty n) (.ty n)
  | cls (C : Addr) : Rep K G (.ref C) (.cls C)
  | op (v : V) : Rep K G v (.op v)
  | dct {a : Addr} : G a = some (.dK []) → Rep K G (.ref a) .dct
  | ins {a C dx : Addr} {fs : List (Str × V)} {ds : List (Str × D)} : G a = some (.ins C dx fs) → RepF K G fs ds → Rep K G (.ref a) (.ins C ds)
inductive RepA (K : PySem.W.Frag) (G : Hp) : List V → List D → Prop
  | nil : RepA K G [] []
  | cons {v : V} {vs : List V} {d : D} {ds : List D} : Rep K G v d → RepA K G vs ds → RepA K G (v :: vs) (d :: ds)
inductive RepF (K : PySem.W.Frag) (G : Hp) : List (Str × V) → List (Str × D) → Prop
  | nil : RepF K G [] []
  | cons {f : Str} {v : V} {vs : List (Str × V)} {d : D} {ds : List (Str × D)} : Rep K G v d → RepF K G vs ds → RepF K G ((f, v) :: vs) ((f, d) :: ds)
end

/-! ## what of a heap is kept: all but the tables of code objects, which grow -/
def Pl : HO → Prop
  | .tbl _ => False
  | .ext _ => False
  | _ => True
/-- the table of the def median: the code object of its lambda bears this name -/
def qMed : Str := "median.<locals>.<lambda>"
def KpO (G H : Hp) (b : Addr) : HO → Prop
  | .tbl _ => (∃ ps, H b = some (.tbl ps)) ∧ (LamX.TabS G b qMed → LamX.TabS H b qMed)
  | o => H b = some o
def Same (G H : Hp) : Prop := ∀ b o, G b = some o → KpO G H b o
section
variable {G H J : Hp} {b p : Addr} {o : HO} {q : Str}
theorem Same.get (e : Same G H) (ho : ∀ ps, o ≠ .tbl ps) (h : G b = some o) : H b = some o := by
  have k := e b o h
  cases o <;> first | exact k | exact (ho _ rfl).elim
theorem Same.ex (e : Same G H) (h : G b = some o) : H b ≠ none := by
  have k := e b o h
  cases o with
  | tbl ps =>
    obtain ⟨⟨ps', h'⟩, _⟩ := k
    rw [h']
    exact fun z => by cases z
  | _ =>
    rw [show H b = some _ from k]
    exact fun z => by cases z
theorem Same.refl (G : Hp) : Same G G := fun b o h => by
  cases o <;> first | exact ⟨⟨_, h⟩, fun t => t⟩ | exact h
theorem Same.of (h : ∀ b o, G b = some o → H b = some o) : Same G H := fun b o e => by
  cases o <;> first | exact ⟨⟨_, h b _ e⟩, fun t => t.ext h⟩ | exact h b _ e
theorem Same.trans (e1 : Same G H) (e2 : Same H J) : Same G J := fun b o h => by
  have k := e1 b o h
  cases o with
  | tbl ps =>
    obtain ⟨⟨ps', h'⟩, t1⟩ := k
    obtain ⟨h2, t2⟩ := e2 b _ h'
    exact ⟨h2, fun t => t2 (t1 t)⟩
  | _ => exact e2 b _ k
theorem Same.free (e : Same G H) (h : H b = none) : G b = none := by
  cases hg : G b with
  | none => rfl
  | some o => exact (e.ex hg h).elim
theorem Same.tab (e : Same G H) (t : LamX.TabS G b qMed) : LamX.TabS H b qMed := by
  obtain ⟨ps, h, _⟩ := id t
  exact (e b _ h).2 t
theorem tab_upd (t : LamX.TabS H b q) (hb : b ≠ p) (hp : ∀ u, H p = some u → Pl u) : LamX.TabS (upd H p o) b q := by
  obtain ⟨ps, h1, h2, h3⟩ := t
  refine ⟨ps, by rw [upd_ne hb]; exact h1, h2, fun pos cv hc => ?_⟩
  obtain ⟨c, e1, e2⟩ := h3 pos cv hc
  refine ⟨c, e1, ?_⟩
  rw [upd_ne fun z => by
    rw [z] at e2
    exact (hp _ e2).elim]
  exact e2
theorem tab_back (t : LamX.TabS (upd H p o) b q) (hb : b ≠ p) (ho : Pl o) : LamX.TabS H b q := by
  obtain ⟨ps, h1, h2, h3⟩ := t
  rw [upd_ne hb] at h1
  refine ⟨ps, h1, h2, fun pos cv hc => ?_⟩
  obtain ⟨c, e1, e2⟩ := h3 pos cv hc
  refine ⟨c, e1, ?_⟩
  rw [upd_ne fun z => by
    rw [z, upd_same] at e2
    cases e2
    exact ho.elim] at e2
  exact e2
theorem Same.upd (e : Same G H) (h : G p = none) (hp : ∀ u, H p = some u → Pl u) : Same G (upd H p o) := fun b u hg => by
  have hb : b ≠ p := ne_of_none hg h
  have k := e b u hg
  cases u with
  | tbl ps =>
    obtain ⟨⟨ps', h'⟩, t⟩ := k
    exact ⟨⟨ps', by rw [upd_ne hb]; exact h'⟩, fun tq => tab_upd (t tq) hb hp⟩
  | _ =>
    show L2.upd H p o b = _
    rw [upd_ne hb]
    exact k
end
def TabsK (K : PySem.W.Frag) (G : Hp) : Prop := ∀ c P, PySem.W.tabIn K "median" = some (c, P) → LamX.TabS G P qMed
theorem TabsK.mono {G G' : Hp} (t : TabsK K G) (e : Same G G') : TabsK K G' := fun c P h => e.tab (t c P h)

theorem rd_same {G G' : Hp} {a : Addr} {u : HO} (e : Same G G') (h : Rd G a u) (hu : ∀ ps, u ≠ .tbl ps := by intro ps z; cases z) : Rd G' a u := by
  rcases h with h | ⟨o, h⟩
  · exact Or.inl (e.get hu h)
  · exact Or.inr ⟨o, e _ _ h⟩

theorem ls_same {G G' : Hp} {a : Addr} {vs : List V} (e : Same G G') (h : LsX K G a vs) : LsX K G' a vs := by
  rcases h with h | h
  · exact .inl (rd_same e h)
  · exact .inr h
mutual
theorem Rep.mono {G G' : Hp} (e : Same G G') : ∀ {v : V} {d : D}, Rep K G v d → Rep K G' v d
  | _, _, .non => .non
  | _, _, .bl b => .bl b
  | _, _, .int i => .int i
  | _, _, .str z => .str z
  | _, _, .lst h r => .lst (ls_same e h) (RepA.mono e r)
  | _, _, .tup h r => .tup (rd_same e h) (RepA.mono e r)
  | _, _, .ty n => .ty n
  | _, _, .cls C => .cls C
  | _, _, .op v => .op v
  | _, _, .dct h => .dct (e _ _ h)
  | _, _, .ins h r => .ins (e _ _ h) (RepF.mono e r)
theorem RepA.mono {G G' : Hp} (e : Same G G') : ∀ {vs : List V} {ds : List D}, RepA K G vs ds → RepA K G' vs ds
  | _, _, .nil => .nil
  | _, _, .cons h r => .cons (Rep.mono e h) (RepA.mono e r)
theorem RepF.mono {G G' : Hp} (e : Same G G') : ∀ {vs : List (Str × V)} {ds : List (Str × D)}, RepF K G vs ds → RepF K G' vs ds
  | _, _, .nil => .nil
  | _, _, .cons h r => .cons (Rep.mono e h) (RepF.mono e r)
end

section
variable {G : Hp}
theorem RepA.len : ∀ {vs : List V} {ds : List D}, RepA K G vs ds → vs.length = ds.length
  | _, _, .nil => rfl
  | _, _, .cons _ r => congrArg (· + 1) (RepA.len r)
theorem RepA.at : ∀ {vs : List V} {ds : List D} {i : Nat} {d : D}, RepA K G vs ds → ds[i]? = some d → ∃ v, vs[i]? = some v ∧ Rep K G v d
  | _, _, _, _, .nil, h => by simp at h
  | _, _, 0, _, .cons r _, h => by simp at h; subst h; exact ⟨_, rfl, r⟩
  | _, _, i + 1, d, .cons _ r, h => by
    obtain ⟨v, h1, h2⟩ := RepA.at (i := i) (d := d) r (by simpa using h)
    exact ⟨v, by simpa using h1, h2⟩
theorem RepA.of_at : ∀ {vs : List V} {ds : List D} {i : Nat} {v : V}, RepA K G vs ds → vs[i]? = some v → ∃ d, ds[i]? = some d ∧ Rep K G v d
  | _, _, _, _, .nil, h => by simp at h
  | _, _, 0, _, .cons r _, h => by simp at h; subst h; exact ⟨_, rfl, r⟩
  | _, _, i + 1, v, .cons _ r, h => by
    obtain ⟨d, h1, h2⟩ := RepA.of_at (i := i) (v := v) r (by simpa using h)
    exact ⟨d, by simpa using h1, h2⟩
theorem RepA.app : ∀ {vs ws : List V} {ds es : List D}, RepA K G vs ds → RepA K G ws es → RepA K G (vs ++ ws) (ds ++ es)
  | _, _, _, _, .nil, r => r
  | _, _, _, _, .cons h t, r => .cons h (RepA.app t r)
theorem RepA.take : ∀ {vs : List V} {ds : List D} (n : Nat), RepA K G vs ds → RepA K G (vs.take n) (ds.take n)
  | _, _, 0, _ => .nil
  | _, _, _ + 1, .nil => .nil
  | _, _, n + 1, .cons h t => .cons h (RepA.take n t)
theorem RepA.drop : ∀ {vs : List V} {ds : List D} (n : Nat), RepA K G vs ds → RepA K G (vs.drop n) (ds.drop n)
  | _, _, 0, r => r
  | _, _, _ + 1, .nil => .nil
  | _, _, n + 1, .cons _ t => RepA.drop n t
theorem RepA.set {v : V} {d : D} (h : Rep K G v d) : ∀ {vs : List V} {ds : List D} (n : Nat), RepA K G vs ds → RepA K G (vs.set n v) (ds.set n d)
  | _, _, _, .nil => .nil
  | _, _, 0, .cons _ t => .cons h t
  | _, _, n + 1, .cons q t => .cons q (RepA.set h n t)
theorem RepA.rev : ∀ {vs : List V} {ds : List D}, RepA K G vs ds → RepA K G vs.reverse ds.reverse
  | _, _, .nil => .nil
  | _, _, .cons h t => by
    rw [List.reverse_cons, List.reverse_cons]
    exact (RepA.rev t).app (.cons h .nil)
theorem RepA.dropLast : ∀ {vs : List V} {ds : List D}, RepA K G vs ds → RepA K G vs.dropLast ds.dropLast
  | _, _, .nil => .nil
  | _, _, .cons h .nil => .nil
  | _, _, .cons h (.cons h2 t) => .cons h (RepA.dropLast (.cons h2 t))
theorem RepA.rep {v : V} {d : D} (h : Rep K G v d) : ∀ n : Nat, RepA K G (List.replicate n v) (List.replicate n d)
  | 0 => .nil
  | n + 1 => .cons h (RepA.rep h n)
theorem RepA.reps {vs : List V} {ds : List D} (h : RepA K G vs ds) : ∀ n : Nat, RepA K G (List.replicate n vs).flatten (List.replicate n ds).flatten
  | 0 => .nil
  | n + 1 => by
    rw [List.replicate_succ, List.replicate_succ, List.flatten_cons, List.flatten_cons]
    exact h.app (RepA.reps h n)
theorem RepA.flat2 : ∀ {vss : List (List V)} {dss : List (List D)}, Paired (RepA K G) vss dss → RepA K G vss.flatten dss.flatten
  | _, _, .nil => .nil
  | _, _, .cons h t => h.app (RepA.flat2 t)
/-- whole numbers, truths: what the values are -/
abbrev dI (ns : List Int) : List D := ns.map D.int
abbrev dB (bs : List Bool) : List D := bs.map D.bl
theorem RepA.dI_inv : ∀ {ns : List Int} {vs : List V}, RepA K G vs (dI ns) → vs = ns.map V.int
  | [], _, h => by cases h; rfl
  | n :: r, _, h => by
    cases h with
    | cons a b =>
      cases a
      rw [RepA.dI_inv (ns := r) b]
      rfl
theorem RepA.dB_inv : ∀ {bs : List Bool} {vs : List V}, RepA K G vs (dB bs) → vs = bs.map V.bl
  | [], _, h => by cases h; rfl
  | n :: r, _, h => by
    cases h with
    | cons a b =>
      cases a
      rw [RepA.dB_inv (bs := r) b]
      rfl
theorem RepA.dI_mk (G : Hp) : ∀ ns : List Int, RepA K G (ns.map V.int) (dI ns)
  | [] => .nil
  | n :: r => .cons (.int n) (RepA.dI_mk G r)
/-- data that no heap tells -/
def flat : D → Bool
  | .non | .bl _ | .int _ | .str _ | .ty _ | .cls _ | .op _ => true
  | _ => false
theorem Rep.flat {G' : Hp} {v : V} {d : D} (h : Rep K G v d) (e : flat d = true) : Rep K G' v d := by
  cases h with
  | non => exact .non
  | bl b => exact .bl b
  | int i => exact .int i
  | str z => exact .str z
  | lst _ _ => cases e
  | tup _ _ => cases e
  | ty n => exact .ty n
  | cls C => exact .cls C
  | op v => exact .op v
  | dct _ => cases e
  | ins _ _ => cases e
end

/-! ## growing -/
/-- G the steady part of H: both grow, and what was unsteady stays so -/
structure Grow (G H G' H' : Hp) : Prop where
  g : Same G G'
  i : Same G' H'
  h : Same H H'
  u : ∀ a, G a = none → H a ≠ none → G' a = none
theorem Grow.refl {G H : Hp} (e : Same G H) : Grow G H G H := ⟨Same.refl G, e, Same.refl H, fun _ h _ => h⟩
theorem Grow.trans {G H G1 H1 G2 H2 : Hp} (a : Grow G H G1 H1) (b : Grow G1 H1 G2 H2) : Grow G H G2 H2 :=
  ⟨a.g.trans b.g, b.i, a.h.trans b.h, fun x h1 h2 => b.u x (a.u x h1 h2) fun z => h2 (a.h.free z)⟩
theorem same_new {G : Hp} {p : Addr} {o : HO} (h : G p = none) : Same G (upd G p o) := Same.of fun b u e => by
  rw [upd_ne (ne_of_none e h)]
  exact e
theorem none_back {G H : Hp} {p : Addr} (e : Same G H) (h : H p = none) : G p = none := e.free h
theorem same_upd2 {G H : Hp} {p : Addr} {o : HO} (e : Same G H) (hH : H p = none) (ho : Pl o) : Same (upd G p o) (upd H p o) := fun b u h => by
  by_cases hb : b = p
  · rw [hb, upd_same] at h
    cases h
    rw [hb]
    cases o <;> first | exact ho.elim | exact upd_same
  · rw [upd_ne hb] at h
    have k := e b u h
    cases u with
    | tbl ps =>
      obtain ⟨⟨ps', h'⟩, t⟩ := k
      exact ⟨⟨ps', by rw [upd_ne hb]; exact h'⟩, fun tq => tab_upd (t (tab_back tq hb ho)) hb fun u hu => by rw [hH] at hu; cases hu⟩
    | _ =>
      show L2.upd H p o b = _
      rw [upd_ne hb]
      exact k
theorem Grow.new {G H : Hp} {p : Addr} {o : HO} (e : Same G H) (h : H p = none) (ho : Pl o := by trivial) : Grow G H (upd G p o) (upd H p o) :=
  ⟨same_new (none_back e h), same_upd2 e h ho, same_new h, fun a h1 h2 => by
    rw [upd_ne (fun z => h2 (by rw [z]; exact h))]
    exact h1⟩

/-! ## slots -/
/-- a part of a thing of one's own: data that stands still, or a list of one's own -/
inductive Ch where
  | st (d : D) | ow (ds : List D)
def Ch.d : Ch → D
  | .st d => d
  | .ow ds => .lst ds
/-- what is known of a slot: nothing, data, a list of one's own (nobody else holds it), a list or an object of one's own with parts -/
inductive B where
  | no | im (d : D) | ow (ds : List D) | ol (cs : List Ch) | oo (t : Option Addr) (C : Addr) (fs : List (Str × Ch))
def chF (fs : List (Str × Ch)) : List (Str × D) := fs.map fun p => (p.1, p.2.d)
def B.d : B → D
  | .no => .non
  | .im d => d
  | .ow ds => .lst ds
  | .ol cs => .lst (cs.map Ch.d)
  | .oo _ C fs => .ins C (chF fs)
structure Sl (K : PySem.W.Frag) (G : Hp) (σ : L2.St) (Γ : List B) : Prop where
  im : ∀ (i : Nat) (d : D), Γ[i]? = some (.im d) → ∃ v, σ[i]? = some (some v) ∧ Rep K G v d
  len : σ.length = Γ.length
  tb : TabsK K G
def wipeB (Γ : List B) : List Nat → List B
  | [] => Γ
  | v :: vs => (wipeB Γ vs).set v .no
section
variable {G G' H H' : Hp} {σ : L2.St} {Γ : List B}
theorem Sl.mono (e : Same G G') (s : Sl K G σ Γ) : Sl K G' σ Γ := ⟨fun i d h => by
  obtain ⟨v, h1, h2⟩ := s.im i d h
  exact ⟨v, h1, h2.mono e⟩, s.len, s.tb.mono e⟩
theorem Sl.set {v : V} {d : D} (s : Sl K G σ Γ) (i : Nat) (h : Rep K G v d) : Sl K G (σ.set i (some v)) (Γ.set i (.im d)) := ⟨fun j e hj => by
  have hlen : j < Γ.length := by
    have q := (List.getElem?_eq_some_iff.mp hj).1
    rwa [List.length_set] at q
  by_cases hij : i = j
  · subst hij
    rw [List.getElem?_set_self hlen] at hj
    cases hj
    exact ⟨v, by rw [List.getElem?_set_self (by rw [s.len]; exact hlen)], h⟩
  · rw [List.getElem?_set_ne hij] at hj
    obtain ⟨w, h1, h2⟩ := s.im j e hj
    exact ⟨w, by rw [List.getElem?_set_ne hij]; exact h1, h2⟩, by rw [List.length_set, List.length_set]; exact s.len, s.tb⟩
theorem Sl.clear (s : Sl K G σ Γ) (i : Nat) : Sl K G (σ.set i none) (Γ.set i .no) := ⟨fun j e hj => by
  have hlen : j < Γ.length := by
    have q := (List.getElem?_eq_some_iff.mp hj).1
    rwa [List.length_set] at q
  by_cases hij : i = j
  · subst hij
    rw [List.getElem?_set_self hlen] at hj
    cases hj
  · rw [List.getElem?_set_ne hij] at hj
    obtain ⟨w, h1, h2⟩ := s.im j e hj
    exact ⟨w, by rw [List.getElem?_set_ne hij]; exact h1, h2⟩, by rw [List.length_set, List.length_set]; exact s.len, s.tb⟩
theorem Sl.wipe (s : Sl K G σ Γ) : ∀ vs : List Nat, Sl K G (L2.wipe σ vs) (wipeB Γ vs)
  | [] => s
  | v :: vs => (Sl.wipe s vs).clear v
end

/-! ## what evaluates to what -/
section
def DE (K : PySem.W.Frag) (t : TE) (Γ : List B) (d : D) : Prop := ∀ (σ : L2.St) (G H : Hp), Same G H → Sl K G σ Γ → ∀ Q : VK, (∀ v G' H', Grow G H G' H' → Rep K G' v d → Q v H') → t σ H Q
def DT (K : PySem.W.Frag) (t : TT) (Γ : List B) (b : Bool) : Prop := ∀ (σ : L2.St) (G H : Hp), Same G H → Sl K G σ Γ → ∀ Q : Bool → Hp → Prop, (∀ G' H', Grow G H G' H' → Q b H') → t σ H Q
def DAr (K : PySem.W.Frag) (t : TA) (Γ : List B) (ds : List D) : Prop := ∀ (σ : L2.St) (G H : Hp), Same G H → Sl K G σ Γ → ∀ Q : List V → Hp → Prop, (∀ vs G' H', Grow G H G' H' → RepA K G' vs ds → Q vs H') → t σ H Q
def DO (K : PySem.W.Frag) (t : TO) (Γ : List B) (o : Option Int) : Prop := ∀ (σ : L2.St) (G H : Hp), Same G H → Sl K G σ Γ → ∀ Q : Option Int → Hp → Prop, (∀ G' H', Grow G H G' H' → Q o H') → t σ H Q
/-- operations on data -/
def R1D (K : PySem.W.Frag) (r : V → Hp → VK → Prop) (d f : D) : Prop := ∀ (x : V) (G H : Hp), Same G H → Rep K G x d → ∀ Q : VK, (∀ v G' H', Grow G H G' H' → Rep K G' v f → Q v H') → r x H Q
def R2D (K : PySem.W.Frag) (r : R2) (d e f : D) : Prop := ∀ (x y : V) (G H : Hp), Same G H → Rep K G x d → Rep K G y e → ∀ Q : VK, (∀ v G' H', Grow G H G' H' → Rep K G' v f → Q v H') → r x y H Q
def RCD (K : PySem.W.Frag) (r : List V → Hp → VK → Prop) (ds : List D) (f : D) : Prop := ∀ (vs : List V) (G H : Hp), Same G H → RepA K G vs ds → ∀ Q : VK, (∀ v G' H', Grow G H G' H' → Rep K G' v f → Q v H') → r vs H Q
/-- what is walked -/
structure WalkD (K : PySem.W.Frag) (J : It) (ds : List D) (G' : Hp) : Prop where
  w : ∃ Y : Nat → Hp → V → Hp → Prop, Walk J ds.length (fun H => Same G' H) Y ∧
    ∀ (i : Nat) (G2 H : Hp) (x : V) (H' : Hp) (d : D), Same G' G2 → Same G2 H → Y i H x H' → ds[i]? = some d → ∃ G3, Grow G2 H G3 H' ∧ Rep K G3 x d
def DI (K : PySem.W.Frag) (t : TI) (Γ : List B) (ds : List D) : Prop := ∀ (σ : L2.St) (G H : Hp), Same G H → Sl K G σ Γ → ∀ R : It → Hp → Prop, (∀ J G' H', Grow G H G' H' → WalkD K J ds G' → R J H') → t σ H R
/-- a target: which slots it sets, what of them is known behind -/
def DG (K : PySem.W.Frag) (g : TG) (ok : Nat → Prop) (d : D) (Γ Γ' : List B) : Prop := ∀ (x : V) (G H : Hp) (σ : L2.St) (Q : L2.St → Hp → Prop) (I : L2.St → List B → Prop), Same G H → Rep K G x d →
  (∀ σ Γ i v d, ok i → Rep K G v d → I σ Γ → I (σ.set i (some v)) (Γ.set i (.im d))) → I σ Γ → (∀ σ', I σ' Γ' → Q σ' H) → g x σ H Q
def DGs (K : PySem.W.Frag) (g : TGs) (ok : Nat → Prop) (ds : List D) (Γ Γ' : List B) : Prop := ∀ (xs : List V) (G H : Hp) (σ : L2.St) (Q : L2.St → Hp → Prop) (I : L2.St → List B → Prop), Same G H → RepA K G xs ds →
  (∀ σ Γ i v d, ok i → Rep K G v d → I σ Γ → I (σ.set i (some v)) (Γ.set i (.im d))) → I σ Γ → (∀ σ', I σ' Γ' → Q σ' H) → g xs σ H Q
end
section
variable {σ : L2.St} {Γ Γ' Γ2 : List B} {ta tb tc te : TE} {t u : TT} {a b c d e f : D} {ds es : List D} {r : R2}
theorem de_var {i : Nat} (h : Γ[i]? = some (.im d)) : DE K (tVar i) Γ d := fun σ G H e s Q q => by
  obtain ⟨v, h1, h2⟩ := s.im i d h
  exact ⟨v, h1, q v G H (Grow.refl e) h2⟩
theorem de_c {v : V} (h : ∀ G, Rep K G v d) : DE K (tC v) Γ d := fun σ G H e s Q q => q v G H (Grow.refl e) (h G)
theorem de_int {i : Int} : DE K (tC (.int i)) Γ (.int i) := de_c fun _ => .int i
theorem de_bl {i : Bool} : DE K (tC (.bl i)) Γ (.bl i) := de_c fun _ => .bl i
theorem de_non : DE K (tC .non) Γ .non := de_c fun _ => .non
theorem de_str {z : Str} : DE K (tC (.str z)) Γ (.str z) := de_c fun _ => .str z
theorem de_is (h : DE K te Γ d) (e : d = f) : DE K te Γ f := e ▸ h
theorem dt_is {x y : Bool} (h : DT K t Γ x) (e : x = y) : DT K t Γ y := e ▸ h
theorem de_op (ha : DE K ta Γ a) (hb : DE K tb Γ b) (hr : R2D K r a b f) : DE K (tOp r ta tb) Γ f := fun σ G H e s Q q =>
  ha σ G H e s _ fun x G1 H1 g1 r1 => hb σ G1 H1 g1.i (s.mono g1.g) _ fun y G2 H2 g2 r2 =>
    hr x y G2 H2 g2.i (r1.mono g2.g) r2 Q fun v G3 H3 g3 r3 => q v G3 H3 ((g1.trans g2).trans g3) r3
theorem de_un {r : V → Hp → VK → Prop} (ha : DE K ta Γ a) (hr : R1D K r a f) : DE K (tUn r ta) Γ f := fun σ G H e s Q q =>
  ha σ G H e s _ fun x G1 H1 g1 r1 => hr x G1 H1 g1.i r1 Q fun v G3 H3 g3 r3 => q v G3 H3 (g1.trans g3) r3
theorem da_nil : DAr K tNil Γ [] := fun σ G H e s Q q => q [] G H (Grow.refl e) .nil
theorem da_cons {tr : TA} (ha : DE K ta Γ a) (hr : DAr K tr Γ ds) : DAr K (tCons ta tr) Γ (a :: ds) := fun σ G H e s Q q =>
  ha σ G H e s _ fun x G1 H1 g1 r1 => hr σ G1 H1 g1.i (s.mono g1.g) _ fun xs G2 H2 g2 r2 => q (x :: xs) G2 H2 (g1.trans g2) (.cons (r1.mono g2.g) r2)
theorem de_cb {r : List V → Hp → VK → Prop} {tr : TA} (ha : DAr K tr Γ ds) (hr : RCD K r ds f) : DE K (tCB r tr) Γ f := fun σ G H e s Q q =>
  ha σ G H e s _ fun xs G1 H1 g1 r1 => hr xs G1 H1 g1.i r1 Q fun v G3 H3 g3 r3 => q v G3 H3 (g1.trans g3) r3
theorem de_tup {tr : TA} (ha : DAr K tr Γ ds) (hl : ds.length ≤ 1000) : DE K (tTup tr) Γ (.tup ds) := fun σ G H e s Q q =>
  ha σ G H e s _ fun xs G1 H1 g1 r1 => ⟨by rw [r1.len]; exact Nat.le_trans hl (by decide), fun p hp =>
    q (.ref p) _ _ (g1.trans (Grow.new g1.i hp)) (.tup (Rd.of upd_same) (r1.mono (same_new (none_back g1.i hp))))⟩
theorem de_lst {tr : TA} (ha : DAr K tr Γ ds) (hl : ds.length ≤ 1000) : DE K (tLst tr) Γ (.lst ds) := fun σ G H e s Q q =>
  ha σ G H e s _ fun xs G1 H1 g1 r1 => ⟨by rw [r1.len]; exact Nat.le_trans hl (by decide), fun p hp =>
    q (.ref p) _ _ (g1.trans (Grow.new g1.i hp)) (.lst (LsX.of upd_same) (r1.mono (same_new (none_back g1.i hp))))⟩
theorem de_if {x : Bool} (h : DT K t Γ x) (h1 : x = true → DE K ta Γ d) (h2 : x = false → DE K tb Γ d) : DE K (tIf t ta tb) Γ d := fun σ G H e s Q q =>
  h σ G H e s _ fun G1 H1 g1 => by
    cases x with
    | true => exact h1 rfl σ G1 H1 g1.i (s.mono g1.g) Q fun v G2 H2 g2 r => q v G2 H2 (g1.trans g2) r
    | false => exact h2 rfl σ G1 H1 g1.i (s.mono g1.g) Q fun v G2 H2 g2 r => q v G2 H2 (g1.trans g2) r
theorem de_andV {x y : Bool} (h1 : DE K ta Γ (.bl x)) (h2 : x = true → DE K tb Γ (.bl y)) : DE K (tAndV ta tb) Γ (.bl (x && y)) := fun σ G H e s Q q =>
  h1 σ G H e s _ fun v G1 H1 g1 r1 => by
    cases r1
    refine ⟨x, rfl, ?_⟩
    cases x with
    | true => exact h2 rfl σ G1 H1 g1.i (s.mono g1.g) Q fun v G2 H2 g2 r => q v G2 H2 (g1.trans g2) r
    | false => exact q _ G1 H1 g1 (.bl false)
theorem de_orV {x y : Bool} (h1 : DE K ta Γ (.bl x)) (h2 : x = false → DE K tb Γ (.bl y)) : DE K (tOrV ta tb) Γ (.bl (x || y)) := fun σ G H e s Q q =>
  h1 σ G H e s _ fun v G1 H1 g1 r1 => by
    cases r1
    refine ⟨x, rfl, ?_⟩
    cases x with
    | true => exact q _ G1 H1 g1 (.bl true)
    | false => exact h2 rfl σ G1 H1 g1.i (s.mono g1.g) Q fun v G2 H2 g2 r => q v G2 H2 (g1.trans g2) r
theorem de_notV {x : Bool} (h1 : DE K ta Γ (.bl x)) : DE K (tNotV ta) Γ (.bl (!x)) := fun σ G H e s Q q =>
  h1 σ G H e s _ fun v G1 H1 g1 r1 => by
    cases r1
    exact ⟨x, rfl, q _ G1 H1 g1 (.bl _)⟩
theorem dt_test {x : Bool} (h : DE K te Γ (.bl x)) : DT K (tTest te) Γ x := fun σ G H e s Q q => h σ G H e s _ fun v G1 H1 g1 r1 => by
  cases r1
  exact ⟨x, rfl, q G1 H1 g1⟩
theorem dt_B {x : Bool} (h : DE K te Γ (.bl x)) : DT K (tB te) Γ x := fun σ G H e s Q q => h σ G H e s _ fun v G1 H1 g1 r1 => by
  cases r1
  exact ⟨x, rfl, q G1 H1 g1⟩
theorem dt_yes : DT K tYes Γ true := fun σ G H e s Q q => q G H (Grow.refl e)
theorem dt_and {x y : Bool} (h1 : DT K t Γ x) (h2 : x = true → DT K u Γ y) : DT K (tAnd t u) Γ (x && y) := fun σ G H e s Q q =>
  h1 σ G H e s _ fun G1 H1 g1 => by
    cases x with
    | true => exact h2 rfl σ G1 H1 g1.i (s.mono g1.g) Q fun G2 H2 g2 => q G2 H2 (g1.trans g2)
    | false => exact q G1 H1 g1
theorem dt_or {x y : Bool} (h1 : DT K t Γ x) (h2 : x = false → DT K u Γ y) : DT K (tOr t u) Γ (x || y) := fun σ G H e s Q q =>
  h1 σ G H e s _ fun G1 H1 g1 => by
    cases x with
    | true => exact q G1 H1 g1
    | false => exact h2 rfl σ G1 H1 g1.i (s.mono g1.g) Q fun G2 H2 g2 => q G2 H2 (g1.trans g2)
theorem dt_not {x : Bool} (h1 : DT K t Γ x) : DT K (tNot t) Γ (!x) := fun σ G H e s Q q => h1 σ G H e s _ fun G1 H1 g1 => q G1 H1 g1
theorem do_none : DO K tNoPart Γ none := fun σ G H e s Q q => q G H (Grow.refl e)
theorem do_some {i : Int} (h : DE K te Γ (.int i)) : DO K (tPart te) Γ (some i) := fun σ G H e s Q q => h σ G H e s _ fun v G1 H1 g1 r1 => by
  cases r1
  exact ⟨i, rfl, q G1 H1 g1⟩
/-- two comparisons in a row -/
theorem de_chain {r r' : R2} {x y : Bool} (ha : DE K ta Γ a) (hb : DE K tb Γ b) (hr : R2D K r a b (.bl x)) (hc : x = true → DE K tc Γ c) (hr' : x = true → R2D K r' b c (.bl y)) : DE K (tChain r r' ta tb tc) Γ (.bl (x && y)) := fun σ G H e s Q q =>
  ha σ G H e s _ fun v G1 H1 g1 r1 => hb σ G1 H1 g1.i (s.mono g1.g) _ fun w G2 H2 g2 r2 =>
    hr v w G2 H2 g2.i (r1.mono g2.g) r2 _ fun z G3 H3 g3 r3 => by
      cases r3
      refine ⟨x, rfl, ?_⟩
      cases x with
      | true =>
        exact hc rfl σ G3 H3 g3.i (s.mono ((g1.trans g2).trans g3).g) _ fun z G4 H4 g4 r4 => hr' rfl w z G4 H4 g4.i (r2.mono (g3.trans g4).g) r4 Q fun v' G5 H5 g5 r5 =>
          q v' G5 H5 ((((g1.trans g2).trans g3).trans g4).trans g5) r5
      | false => exact q _ G3 H3 ((g1.trans g2).trans g3) (.bl false)

/-! ## targets -/
theorem dg_name {ok : Nat → Prop} (i : Nat) (hi : ok i) : DG K (gName i) ok d Γ (Γ.set i (.im d)) := fun x G H σ Q I e r cl h q => q _ (cl σ Γ i x d hi r h)
theorem dg_nil {ok : Nat → Prop} : DGs K gNil ok [] Γ Γ := fun xs G H σ Q I e r cl h q => by
  cases r
  exact ⟨rfl, q σ h⟩
theorem dg_cons {ok : Nat → Prop} {g : TG} {gs : TGs} (h1 : DG K g ok d Γ Γ') (h2 : DGs K gs ok ds Γ' Γ2) : DGs K (gCons g gs) ok (d :: ds) Γ Γ2 := fun xs G H σ Q I e r cl h q => by
  cases r with
  | cons r1 r2 =>
    refine ⟨_, _, rfl, ?_⟩
    exact h1 _ G H σ _ I e r1 cl h fun σ' h' => h2 _ G H σ' Q I e r2 cl h' q
theorem dg_tup {ok : Nat → Prop} {gs : TGs} {n : Nat} (h : DGs K gs ok ds Γ Γ') (hn : ds.length = n) : DG K (gTup K n gs) ok (.tup ds) Γ Γ' := fun x G H σ Q I e r cl h0 q => by
  cases r with
  | tup hs ra => exact ⟨_, _, rfl, Or.inl (rd_same e hs), ra.len.trans hn, h _ G H σ Q I e ra cl h0 q⟩
end
end DL

/-! DB: walks, comprehensions, statements, calls over plain data. -/
namespace DL
open PySem PySem.Spec PyProof.Rows L2
variable {K : PySem.W.Frag}

theorem Grow.add {G H G' H' : Hp} {p : Addr} {o : HO} (g : Grow G H G' H') (h : H p = none) (h1 : G' p = none) (h2 : H' p = some o) (ho : Pl o := by trivial) : Grow G H (upd G' p o) H' :=
  ⟨g.g.trans (same_new h1), fun b u e => by
    by_cases hb : b = p
    · rw [hb, upd_same] at e
      cases e
      rw [hb]
      cases o <;> first | exact ho.elim | exact h2
    · rw [upd_ne hb] at e
      have k := g.i b u e
      cases u with
      | tbl ps =>
        obtain ⟨h', t⟩ := k
        exact ⟨h', fun tq => t (tab_back tq hb ho)⟩
      | _ => exact k, g.h, fun a a1 a2 => by
    rw [upd_ne (fun z => a2 (by rw [z]; exact h))]
    exact g.u a a1 a2⟩
/-- an object apart is changed -/
theorem Grow.mut {G H G' H' : Hp} {p : Addr} {o : HO} (g : Grow G H G' H') (h : H p = none) (h1 : G' p = none) (hp : ∀ u, H' p = some u → Pl u) : Grow G H G' (upd H' p o) :=
  ⟨g.g, g.i.upd h1 hp, g.h.upd h hp, g.u⟩

/-! ## what is walked -/
section
variable {σ : L2.St} {Γ Γ' : List B} {te : TE} {ta : TA} {ds es : List D}
theorem walk_at {vs : List V} {G1 G2 H H' : Hp} {x : V} {i : Nat} {d : D} (r : RepA K G1 vs ds) (e1 : Same G1 G2) (e2 : Same G2 H) (y : YAt vs i H x H') (hd : ds[i]? = some d) : ∃ G3, Grow G2 H G3 H' ∧ Rep K G3 x d := by
  obtain ⟨rfl, hx⟩ := y
  obtain ⟨v, h1, h2⟩ := r.at hd
  rw [h1] at hx
  cases hx
  exact ⟨G2, Grow.refl e2, h2.mono e1⟩
theorem di_list (h : DE K te Γ (.lst ds)) : DI K (iList K te) Γ ds := fun σ G H e s R q => h σ G H e s _ fun v G1 H1 g1 r1 => by
  cases r1 with
  | @lst a vs _ hs ra =>
    refine ⟨a, rfl, ⟨vs, (ls_same g1.i hs).sq⟩, q _ G1 H1 g1 ⟨YAt vs, ?_, fun i G2 H x H' d e1 e2 y hd => walk_at ra e1 e2 y hd⟩⟩
    rw [← ra.len]
    exact walk_list.mono (fun H' h' => (ls_same h' hs).sq) fun _ _ _ _ _ _ y => y
theorem di_tup (h : DE K te Γ (.tup ds)) : DI K (iTup K te) Γ ds := fun σ G H e s R q => h σ G H e s _ fun v G1 H1 g1 r1 => by
  cases r1 with
  | @tup a vs _ hs ra =>
    refine ⟨a, rfl, ⟨vs, Or.inl (rd_same g1.i hs)⟩, q _ G1 H1 g1 ⟨YAt vs, ?_, fun i G2 H x H' d e1 e2 y hd => walk_at ra e1 e2 y hd⟩⟩
    rw [← ra.len]
    exact walk_tup.mono (fun H' h' => Or.inl (rd_same h' hs)) fun _ _ _ _ _ _ y => y
theorem di_rng1 {n : Nat} (h : DAr K ta Γ [.int (n : Int)]) (hn : n ≤ 1000000) : DI K (iRng1 ta) Γ ((List.range n).map fun i : Nat => D.int (i : Int)) := fun σ G H e s R q => h σ G H e s _ fun vs G1 H1 g1 r1 => by
  cases r1 with
  | cons a b =>
    cases a
    cases b
    refine ⟨(n : Int), rfl, by omega, by omega, q _ G1 H1 g1 ⟨YFn (fun i => .int (0 + (i : Int))), ?_, fun i G2 H x H' d e1 e2 y hd => ?_⟩⟩
    · rw [List.length_map, List.length_range]
      exact walk_range.mono (fun _ _ => trivial) fun _ _ _ _ _ _ y => y
    · obtain ⟨rfl, rfl⟩ := y
      rw [List.getElem?_map] at hd
      by_cases hi : i < n
      · rw [List.getElem?_range hi] at hd
        cases hd
        refine ⟨G2, Grow.refl e2, ?_⟩
        show Rep K G2 (V.int (0 + (i : Int))) (D.int (i : Int))
        rw [Int.zero_add]
        exact .int _
      · rw [List.getElem?_eq_none (by rw [List.length_range]; omega)] at hd
        cases hd
theorem di_rng2 {lo hi : Int} (h : DAr K ta Γ [.int lo, .int hi]) (h1 : -1000000 ≤ lo ∧ lo ≤ 1000000 ∧ -1000000 ≤ hi ∧ hi ≤ 1000000) : DI K (iRng2 ta) Γ ((List.range (hi - lo).toNat).map fun i : Nat => D.int (lo + (i : Int))) := fun σ G H e s R q => h σ G H e s _ fun vs G1 H1 g1 r1 => by
  cases r1 with
  | cons a b =>
    cases a
    cases b with
    | cons a b =>
      cases a
      cases b
      refine ⟨lo, hi, rfl, ⟨by omega, by omega, by omega, by omega⟩, q _ G1 H1 g1 ⟨YFn (fun i => .int (lo + (i : Int))), ?_, fun i G2 H x H' d e1 e2 y hd => ?_⟩⟩
      · rw [List.length_map, List.length_range]
        exact walk_range.mono (fun _ _ => trivial) fun _ _ _ _ _ _ y => y
      · obtain ⟨rfl, rfl⟩ := y
        rw [List.getElem?_map] at hd
        by_cases hi' : i < (hi - lo).toNat
        · rw [List.getElem?_range hi'] at hd
          cases hd
          exact ⟨G2, Grow.refl e2, .int _⟩
        · rw [List.getElem?_eq_none (by rw [List.length_range]; omega)] at hd
          cases hd
theorem pair_grow {G2 H H' : Hp} {xs ys : Nat → Option V} {i : Nat} {x : V} {a b : D} (e2 : Same G2 H) (y : YPair xs ys i H x H') (hx : ∀ v, xs i = some v → Rep K G2 v a) (hy : ∀ v, ys i = some v → Rep K G2 v b) : ∃ G3, Grow G2 H G3 H' ∧ Rep K G3 x (.tup [a, b]) := by
  obtain ⟨T, v, u, rfl, hT, rfl, h1, h2⟩ := y
  have hn := same_new (o := .tup [v, u]) (none_back e2 hT)
  exact ⟨_, Grow.new e2 hT, .tup (Rd.of upd_same) (.cons ((hx v h1).mono hn) (.cons ((hy u h2).mono hn) .nil))⟩
/-- the places and what stands there -/
def numbered : Nat → List D → List D
  | _, [] => []
  | n, d :: r => .tup [.int (n : Int), d] :: numbered (n + 1) r
theorem numbered_len : ∀ (ds : List D) (n : Nat), (numbered n ds).length = ds.length
  | [], _ => rfl
  | _ :: r, n => congrArg (· + 1) (numbered_len r (n + 1))
theorem numbered_at : ∀ (ds : List D) (n i : Nat), (numbered n ds)[i]? = (ds[i]?).map fun d => .tup [.int ((n + i : Nat) : Int), d]
  | [], _, _ => by simp [numbered]
  | _ :: r, n, 0 => by simp [numbered]
  | _ :: r, n, i + 1 => by
    show (numbered (n + 1) r)[i]? = _
    rw [numbered_at r (n + 1) i]
    have e : n + 1 + i = n + (i + 1) := by omega
    rw [e]
    rfl
theorem di_enum (h : DAr K ta Γ [.lst ds]) : DI K (iEnum K ta) Γ (numbered 0 ds) := fun σ G H e s R q => h σ G H e s _ fun vs G1 H1 g1 r1 => by
  cases r1 with
  | cons a b =>
    cases b
    cases a with
    | @lst a vs _ hs ra =>
      refine ⟨a, vs, rfl, (ls_same g1.i hs).sq, q _ G1 H1 g1 ⟨YPair (fun i => some (.int (i : Nat))) (fun i => vs[i]?), ?_, fun i G2 H x H' d e1 e2 y hd => ?_⟩⟩
      · rw [numbered_len, ← ra.len]
        exact walk_enum.mono (fun H' h' => (ls_same h' hs).sq) fun _ _ _ _ _ _ y => y
      · rw [numbered_at] at hd
        cases e : ds[i]? with
        | none =>
          rw [e] at hd
          cases hd
        | some z =>
          rw [e] at hd
          cases hd
          rw [Nat.zero_add]
          refine pair_grow e2 y (fun v hv => ?_) fun v hv => ?_
          · cases hv
            exact .int _
          · obtain ⟨w, h1, h2⟩ := ra.at e
            rw [h1] at hv
            cases hv
            exact h2.mono e1
def zipD : List D → List D → List D
  | a :: r, b :: t => .tup [a, b] :: zipD r t
  | _, _ => []
theorem zipD_len : ∀ ds es : List D, (zipD ds es).length = min ds.length es.length
  | [], [] => rfl
  | [], _ :: _ => by simp [zipD]
  | _ :: _, [] => by simp [zipD]
  | _ :: r, _ :: t => by simp only [zipD, List.length_cons, zipD_len r t]; omega
theorem zipD_at : ∀ (ds es : List D) (i : Nat) (d : D), (zipD ds es)[i]? = some d → ∃ a b, ds[i]? = some a ∧ es[i]? = some b ∧ d = .tup [a, b]
  | [], [], i, d, h => by simp [zipD] at h
  | [], _ :: _, i, d, h => by simp [zipD] at h
  | _ :: _, [], i, d, h => by simp [zipD] at h
  | a :: r, b :: t, 0, d, h => by simp [zipD] at h; exact ⟨a, b, rfl, rfl, h.symm⟩
  | a :: r, b :: t, i + 1, d, h => by
    obtain ⟨x, y, h1, h2, h3⟩ := zipD_at r t i d (by simpa [zipD] using h)
    exact ⟨x, y, by simpa using h1, by simpa using h2, h3⟩
theorem di_zip (h : DAr K ta Γ [.lst ds, .lst es]) : DI K (iZip K ta) Γ (zipD ds es) := fun σ G H e s R q => h σ G H e s _ fun vs G1 H1 g1 r1 => by
  cases r1 with
  | cons a b =>
    cases b with
    | cons b c =>
      cases c
      cases a with
      | @lst a vs _ hs ra =>
        cases b with
        | @lst b ws _ ht rb =>
          refine ⟨a, b, vs, ws, rfl, (ls_same g1.i hs).sq, (ls_same g1.i ht).sq, q _ G1 H1 g1 ⟨YPair (fun i => vs[i]?) (fun i => ws[i]?), ?_, fun i G2 H x H' d e1 e2 y hd => ?_⟩⟩
          · exact (walk_zip (by rw [zipD_len, ra.len, rb.len])).mono (fun H' h' => ⟨(ls_same h' hs).sq, (ls_same h' ht).sq⟩) fun _ _ _ _ _ _ y => y
          · obtain ⟨a, b, h1, h2, rfl⟩ := zipD_at _ _ _ _ hd
            refine pair_grow e2 y (fun v hv => ?_) fun v hv => ?_
            · obtain ⟨w, h3, h4⟩ := ra.at h1
              rw [h3] at hv
              cases hv
              exact h4.mono e1
            · obtain ⟨w, h3, h4⟩ := rb.at h2
              rw [h3] at hv
              cases hv
              exact h4.mono e1
theorem di_rev (h : DAr K ta Γ [.lst ds]) : DI K (iRev K ta) Γ ds.reverse := fun σ G H e s R q => h σ G H e s _ fun vs G1 H1 g1 r1 => by
  cases r1 with
  | cons a b =>
    cases b
    cases a with
    | @lst a vs _ hs ra =>
      refine ⟨a, vs, rfl, (ls_same g1.i hs).sq, q _ G1 H1 g1 ⟨fun i H x H' => H' = H ∧ vs[vs.length - 1 - i]? = some x, ?_, fun i G2 H x H' d e1 e2 y hd => ?_⟩⟩
      · rw [List.length_reverse, ← ra.len]
        exact walk_rev.mono (fun H' h' => (ls_same h' hs).sq) fun _ _ _ _ _ _ y => y
      · obtain ⟨rfl, hx⟩ := y
        have hi : i < ds.length := by
          have q := (List.getElem?_eq_some_iff.mp hd).1
          rwa [List.length_reverse] at q
        rw [List.getElem?_reverse hi] at hd
        obtain ⟨v, h1, h2⟩ := ra.at hd
        rw [ra.len, h1] at hx
        cases hx
        exact ⟨G2, Grow.refl e2, h2.mono e1⟩
end

/-! ## comprehensions -/
theorem wipe_wipe (σ : L2.St) : ∀ vs : List Nat, L2.wipe (L2.wipe σ vs) vs = L2.wipe σ vs := fun vs => by
  apply List.ext_getElem?
  intro i
  by_cases hi : i ∈ vs
  · have h0 : ∀ (τ : L2.St) (ws : List Nat), i ∈ ws → (L2.wipe τ ws)[i]? = if i < τ.length then some none else none := fun τ ws => by
      induction ws with
      | nil => intro h; cases h
      | cons v ws ih =>
        intro h
        show ((L2.wipe τ ws).set v none)[i]? = _
        by_cases hv : v = i
        · subst hv
          rw [List.getElem?_set, if_pos rfl, wipe_length]
        · rw [List.getElem?_set_ne hv]
          exact ih (by cases h with
            | head => exact absurd rfl hv
            | tail _ h => exact h)
    rw [h0 _ _ hi, h0 _ _ hi, wipe_length]
  · rw [wipe_out hi]
theorem wipe_set {σ : L2.St} {i : Nat} {x : Option V} : ∀ {vs : List Nat}, i ∈ vs → L2.wipe (σ.set i x) vs = L2.wipe σ vs := fun {vs} h => by
  apply List.ext_getElem?
  intro j
  induction vs with
  | nil => cases h
  | cons v ws ih =>
    show ((L2.wipe (σ.set i x) ws).set v none)[j]? = ((L2.wipe σ ws).set v none)[j]?
    by_cases hv : v = j
    · subst hv
      rw [List.getElem?_set, List.getElem?_set, wipe_length, wipe_length, List.length_set, if_pos rfl, if_pos rfl]
    · rw [List.getElem?_set_ne hv, List.getElem?_set_ne hv]
      by_cases hw : i ∈ ws
      · exact ih hw
      · have hiv : i = v := by
          cases h with
          | head => rfl
          | tail _ h => exact absurd h hw
        subst hiv
        by_cases hj : j ∈ ws
        · clear ih
          have aux : ∀ us : List Nat, j ∈ us → (L2.wipe (σ.set i x) us)[j]? = (L2.wipe σ us)[j]? := fun us => by
            induction us with
            | nil => intro h; cases h
            | cons u us ih2 =>
              intro hm
              show ((L2.wipe (σ.set i x) us).set u none)[j]? = ((L2.wipe σ us).set u none)[j]?
              by_cases hu : u = j
              · subst hu
                rw [List.getElem?_set, List.getElem?_set, wipe_length, wipe_length, List.length_set, if_pos rfl, if_pos rfl]
              · rw [List.getElem?_set_ne hu, List.getElem?_set_ne hu]
                exact ih2 (by cases hm with
                  | head => exact absurd rfl hu
                  | tail _ h => exact h)
          exact aux ws hj
        · rw [wipe_out hj, wipe_out hj, List.getElem?_set_ne hv]
section
variable {Γ : List B} {wi : TI} {g : TG} {tt : TT} {te : TE} {vs : List Nat} {α : Type}
theorem take_more {xs : List α} {i : Nat} {x : α} (h : xs[i]? = some x) : xs.take (i + 1) = xs.take i ++ [x] := by
  rw [List.take_add_one, h]
  rfl
theorem de_lcF {xs : List α} {enc : α → D} (f : α → D) (p : α → Bool) (hi : DI K wi Γ (xs.map enc)) (hn : xs.length ≤ 100000)
    (h : ∀ x ∈ xs, ∃ Γ', DG K g (· ∈ vs) (enc x) (wipeB Γ vs) Γ' ∧ DT K tt Γ' (p x) ∧ (p x = true → DE K te Γ' (f x))) : DE K (tLc wi g tt te vs) Γ (.lst ((xs.filter p).map f)) := fun σ G H e s Q q =>
  hi σ G H e s _ fun J G1 H1 g1 W => by
    obtain ⟨Y, w, y⟩ := W.w
    intro Dl hD
    refine lc_it w (fun i H' => ∃ G' acc, Grow G1 H1 G' H' ∧ G' Dl = none ∧ H' Dl = some (.lst acc) ∧ RepA K G' acc (((xs.take i).filter p).map f))
      ⟨G1, [], ⟨Same.refl _, g1.i.trans (same_new hD), same_new hD, fun _ h _ => h⟩, none_back g1.i hD, upd_same, .nil⟩ (fun i H' _ ⟨G', acc, g2, _⟩ => g2.g.trans g2.i) ?_ ?_
    · rintro i x H2 H3 hlt ⟨G', acc, g2, n2, h2, r2⟩ hy
      have hlt' : i < xs.length := by rwa [List.length_map] at hlt
      have hx : xs[i]? = some xs[i] := List.getElem?_eq_getElem hlt'
      obtain ⟨G3, g3, r3⟩ := y i G' H2 x H3 (enc xs[i]) g2.g g2.i hy (by rw [List.getElem?_map, hx]; rfl)
      have n3 : G3 Dl = none := g3.u Dl n2 (by rw [h2]; exact fun z => by cases z)
      have h3 : H3 Dl = some (.lst acc) := g3.h Dl _ h2
      obtain ⟨Γ', hg, ht, he⟩ := h xs[i] (List.getElem_mem hlt')
      refine hg x G3 H3 (L2.wipe σ vs) _ (fun σ' Γ'' => Sl K G3 σ' Γ'' ∧ L2.wipe σ' vs = L2.wipe σ vs) g3.i r3 (fun σ' Γ'' j v d hj rv I => ⟨I.1.set j rv, by rw [wipe_set hj]; exact I.2⟩)
        ⟨(s.mono ((g1.trans g2).trans g3).g).wipe vs, wipe_wipe σ vs⟩ fun σ2 I2 => ⟨by rw [I2.2], ?_⟩
      refine ht σ2 G3 H3 g3.i I2.1 _ fun G4 H4 g4 => ?_
      have n4 : G4 Dl = none := g4.u Dl n3 (by rw [h3]; exact fun z => by cases z)
      have h4 : H4 Dl = some (.lst acc) := g4.h Dl _ h3
      cases hp : p xs[i] with
      | false =>
        rw [if_neg Bool.false_ne_true]
        refine ⟨G4, acc, (g2.trans g3).trans g4, n4, h4, ?_⟩
        rw [take_more hx, List.filter_append, List.filter_cons, if_neg (by rw [hp]; exact Bool.false_ne_true), List.filter_nil, List.append_nil]
        exact r2.mono (g3.trans g4).g
      | true =>
        rw [if_pos rfl]
        refine he hp σ2 G4 H4 g4.i (I2.1.mono g4.g) _ fun v G5 H5 g5 r5 => ?_
        have n5 : G5 Dl = none := g5.u Dl n4 (by rw [h4]; exact fun z => by cases z)
        refine ⟨acc, g5.h Dl _ h4, ?_, G5, acc ++ [v], (((g2.trans g3).trans g4).trans g5).mut hD n5 (fun u hu => by rw [g5.h Dl _ h4] at hu; cases hu; trivial), n5, upd_same, ?_⟩
        · rw [r2.len, List.length_map]
          refine Nat.lt_of_le_of_lt (List.length_filter_le _ _) ?_
          rw [List.length_take]
          have : (100001 : Nat) ≤ sizeLine := by decide
          omega
        · rw [take_more hx, List.filter_append, List.map_append, List.filter_cons, if_pos hp]
          exact (r2.mono ((g3.trans g4).trans g5).g).app (.cons r5 .nil)
    · rintro H2 ⟨G', acc, g2, n2, h2, r2⟩
      rw [List.length_map, List.take_length] at r2
      refine q _ _ _ (g1.trans (g2.add hD n2 h2)) (.lst (LsX.of upd_same) (r2.mono (same_new n2)))
theorem de_lc {xs : List α} {enc : α → D} (f : α → D) (hi : DI K wi Γ (xs.map enc)) (hn : xs.length ≤ 100000)
    (h : ∀ x ∈ xs, ∃ Γ', DG K g (· ∈ vs) (enc x) (wipeB Γ vs) Γ' ∧ DE K te Γ' (f x)) : DE K (tLc wi g tYes te vs) Γ (.lst (xs.map f)) := by
  have q := de_lcF (wi := wi) (g := g) (tt := tYes) (te := te) (vs := vs) f (fun _ => true) hi hn fun x hx => by
    obtain ⟨Γ', h1, h2⟩ := h x hx
    exact ⟨Γ', h1, dt_yes, fun _ => h2⟩
  rwa [List.filter_eq_self.mpr fun _ _ => rfl] at q
theorem de_lcI {xs : List α} {enc : α → D} (f : α → Int) (hi : DI K wi Γ (xs.map enc)) (hn : xs.length ≤ 100000)
    (h : ∀ x ∈ xs, ∃ Γ', DG K g (· ∈ vs) (enc x) (wipeB Γ vs) Γ' ∧ DE K te Γ' (.int (f x))) : DE K (tLc wi g tYes te vs) Γ (.lst (dI (xs.map f))) := by
  have q := de_lc (fun x => D.int (f x)) hi hn h
  rwa [show xs.map (fun x => D.int (f x)) = dI (xs.map f) from (List.map_map).symm] at q
theorem de_lcB {xs : List α} {enc : α → D} (f : α → Bool) (hi : DI K wi Γ (xs.map enc)) (hn : xs.length ≤ 100000)
    (h : ∀ x ∈ xs, ∃ Γ', DG K g (· ∈ vs) (enc x) (wipeB Γ vs) Γ' ∧ DE K te Γ' (.bl (f x))) : DE K (tLc wi g tYes te vs) Γ (.lst (dB (xs.map f))) := by
  have q := de_lc (fun x => D.bl (f x)) hi hn h
  rwa [show xs.map (fun x => D.bl (f x)) = dB (xs.map f) from (List.map_map).symm] at q
theorem de_lcIF {xs : List α} {enc : α → D} (f : α → Int) (p : α → Bool) (hi : DI K wi Γ (xs.map enc)) (hn : xs.length ≤ 100000)
    (h : ∀ x ∈ xs, ∃ Γ', DG K g (· ∈ vs) (enc x) (wipeB Γ vs) Γ' ∧ DT K tt Γ' (p x) ∧ (p x = true → DE K te Γ' (.int (f x)))) : DE K (tLc wi g tt te vs) Γ (.lst (dI ((xs.filter p).map f))) := by
  have q := de_lcF (fun x => D.int (f x)) p hi hn h
  rwa [show (xs.filter p).map (fun x => D.int (f x)) = dI ((xs.filter p).map f) from (List.map_map).symm] at q
end
end DL

/-! DC: statements and calls over plain data; lists and objects of one's own. -/
namespace DL
open PySem PySem.Spec PyProof.Rows L2
variable {K : PySem.W.Frag}

/-! ## what is one's own, by its cells -/
inductive OwnC (K : PySem.W.Frag) (G H : Hp) : V → Ch → List Addr → Prop
  | st {v : V} {d : D} : Rep K G v d → OwnC K G H v (.st d) []
  | ow {l : Addr} {vs : List V} {ds : List D} : H l = some (.lst vs) → RepA K G vs ds → OwnC K G H (.ref l) (.ow ds) [l]
inductive OwnL (K : PySem.W.Frag) (G H : Hp) : List V → List Ch → List Addr → Prop
  | nil : OwnL K G H [] [] []
  | cons {v : V} {vs : List V} {c : Ch} {cs : List Ch} {as bs : List Addr} : OwnC K G H v c as → OwnL K G H vs cs bs → OwnL K G H (v :: vs) (c :: cs) (as ++ bs)
inductive OwnF (K : PySem.W.Frag) (G H : Hp) : List (Str × V) → List (Str × Ch) → List Addr → Prop
  | nil : OwnF K G H [] [] []
  | cons {f : Str} {v : V} {vs : List (Str × V)} {c : Ch} {cs : List (Str × Ch)} {as bs : List Addr} : OwnC K G H v c as → OwnF K G H vs cs bs → OwnF K G H ((f, v) :: vs) ((f, c) :: cs) (as ++ bs)
inductive Own (K : PySem.W.Frag) (G H : Hp) : V → B → List Addr → Prop
  | im {v : V} {d : D} : Rep K G v d → Own K G H v (.im d) []
  | ow {l : Addr} {vs : List V} {ds : List D} : H l = some (.lst vs) → RepA K G vs ds → Own K G H (.ref l) (.ow ds) [l]
  | ol {l : Addr} {vs : List V} {cs : List Ch} {as : List Addr} : H l = some (.lst vs) → OwnL K G H vs cs as → Own K G H (.ref l) (.ol cs) (l :: as)
  | oo {p C dx : Addr} {t : Option Addr} {vs : List (Str × V)} {fs : List (Str × Ch)} {as : List Addr} : (∀ q, t = some q → q = p) → H p = some (.ins C dx vs) → OwnF K G H vs fs as → Own K G H (.ref p) (.oo t C fs) (p :: as)
/-- the heaps agree on these cells -/
def Agree (H H' : Hp) (as : List Addr) : Prop := ∀ a ∈ as, ∀ o, Pl o → H a = some o → H' a = some o
theorem Agree.left {H H' : Hp} {as bs : List Addr} (h : Agree H H' (as ++ bs)) : Agree H H' as := fun a m => h a (List.mem_append_left _ m)
theorem Agree.right {H H' : Hp} {as bs : List Addr} (h : Agree H H' (as ++ bs)) : Agree H H' bs := fun a m => h a (List.mem_append_right _ m)
theorem Agree.tail {H H' : Hp} {a : Addr} {as : List Addr} (h : Agree H H' (a :: as)) : Agree H H' as := fun b m => h b (List.mem_cons_of_mem _ m)
theorem Pl.nt {o : HO} (h : Pl o) : ∀ ps, o ≠ .tbl ps := fun ps z => by
  rw [z] at h
  exact h.elim
theorem Agree.of {H H' : Hp} {as : List Addr} (h : Same H H') : Agree H H' as := fun a _ o p e => h.get p.nt e
/-- a plain cell stands there -/
def PlA (H : Hp) (a : Addr) : Prop := ∃ u, H a = some u ∧ Pl u
theorem PlA.ne {H : Hp} {a : Addr} (h : PlA H a) (z : H a = none) : False := by
  obtain ⟨u, h, _⟩ := h
  rw [h] at z
  cases z
theorem PlA.mono {H H' : Hp} {a : Addr} (h : PlA H a) (e : Same H H') : PlA H' a := by
  obtain ⟨u, h1, h2⟩ := h
  exact ⟨u, e.get h2.nt h1, h2⟩
theorem PlA.pl {H : Hp} {a : Addr} (h : PlA H a) : ∀ u, H a = some u → Pl u := fun u hu => by
  obtain ⟨u', h1, h2⟩ := h
  rw [h1] at hu
  cases hu
  exact h2
theorem Agree.upd {H : Hp} {as : List Addr} {l : Addr} {o : HO} (h : ¬ l ∈ as) : Agree H (upd H l o) as := fun a m o' _ e => by
  rw [upd_ne (fun z => h (by rw [← z]; exact m))]
  exact e
section
variable {G H G' H' : Hp} (eg : Same G G')
theorem OwnC.mono {v : V} {c : Ch} {as : List Addr} (o : OwnC K G H v c as) (eg : Same G G') (ag : Agree H H' as) : OwnC K G' H' v c as := by
  cases o with
  | st r => exact .st (r.mono eg)
  | ow h r => exact .ow (ag _ List.mem_cons_self _ trivial h) (r.mono eg)
theorem OwnL.mono : ∀ {vs : List V} {cs : List Ch} {as : List Addr}, OwnL K G H vs cs as → Same G G' → Agree H H' as → OwnL K G' H' vs cs as
  | _, _, _, .nil, _, _ => .nil
  | _, _, _, .cons o r, eg, ag => .cons (o.mono eg ag.left) (OwnL.mono r eg ag.right)
theorem OwnF.mono : ∀ {vs : List (Str × V)} {cs : List (Str × Ch)} {as : List Addr}, OwnF K G H vs cs as → Same G G' → Agree H H' as → OwnF K G' H' vs cs as
  | _, _, _, .nil, _, _ => .nil
  | _, _, _, .cons o r, eg, ag => .cons (o.mono eg ag.left) (OwnF.mono r eg ag.right)
theorem Own.mono {v : V} {b : B} {as : List Addr} (o : Own K G H v b as) (eg : Same G G') (ag : Agree H H' as) : Own K G' H' v b as := by
  cases o with
  | im r => exact .im (r.mono eg)
  | ow h r => exact .ow (ag _ List.mem_cons_self _ trivial h) (r.mono eg)
  | ol h r => exact .ol (ag _ List.mem_cons_self _ trivial h) (r.mono eg ag.tail)
  | oo t h r => exact .oo t (ag _ List.mem_cons_self _ trivial h) (r.mono eg ag.tail)
theorem OwnC.ex {v : V} {c : Ch} {as : List Addr} (o : OwnC K G H v c as) : ∀ a ∈ as, PlA H a := fun a m => by
  cases o with
  | st r => cases m
  | ow h r =>
    rw [List.mem_singleton.mp m]
    exact ⟨_, h, trivial⟩
theorem OwnL.ex : ∀ {vs : List V} {cs : List Ch} {as : List Addr}, OwnL K G H vs cs as → ∀ a ∈ as, PlA H a
  | _, _, _, .nil, _, m => by cases m
  | _, _, _, .cons o r, a, m => by
    rcases List.mem_append.mp m with m | m
    · exact o.ex a m
    · exact OwnL.ex r a m
theorem OwnF.ex : ∀ {vs : List (Str × V)} {cs : List (Str × Ch)} {as : List Addr}, OwnF K G H vs cs as → ∀ a ∈ as, PlA H a
  | _, _, _, .nil, _, m => by cases m
  | _, _, _, .cons o r, a, m => by
    rcases List.mem_append.mp m with m | m
    · exact o.ex a m
    · exact OwnF.ex r a m
theorem Own.ex {v : V} {b : B} {as : List Addr} (o : Own K G H v b as) : ∀ a ∈ as, PlA H a := fun a m => by
  cases o with
  | im r => cases m
  | ow h r =>
    rw [List.mem_singleton.mp m]
    exact ⟨_, h, trivial⟩
  | ol h r =>
    rcases List.mem_cons.mp m with m | m
    · rw [m]
      exact ⟨_, h, trivial⟩
    · exact r.ex a m
  | oo t h r =>
    rcases List.mem_cons.mp m with m | m
    · rw [m]
      exact ⟨_, h, trivial⟩
    · exact r.ex a m
theorem OwnC.data {v : V} {c : Ch} {as : List Addr} (o : OwnC K G H v c as) (eg : Same G G') (ag : Agree H G' as) : Rep K G' v c.d := by
  cases o with
  | st r => exact r.mono eg
  | ow h r => exact .lst (LsX.of (ag _ List.mem_cons_self _ trivial h)) (r.mono eg)
theorem OwnL.data : ∀ {vs : List V} {cs : List Ch} {as : List Addr}, OwnL K G H vs cs as → Same G G' → Agree H G' as → RepA K G' vs (cs.map Ch.d)
  | _, _, _, .nil, _, _ => .nil
  | _, _, _, .cons o r, eg, ag => .cons (o.data eg ag.left) (OwnL.data r eg ag.right)
theorem OwnF.data : ∀ {vs : List (Str × V)} {cs : List (Str × Ch)} {as : List Addr}, OwnF K G H vs cs as → Same G G' → Agree H G' as → RepF K G' vs (chF cs)
  | _, _, _, .nil, _, _ => .nil
  | _, _, _, .cons o r, eg, ag => .cons (o.data eg ag.left) (OwnF.data r eg ag.right)
theorem Own.data {v : V} {b : B} {as : List Addr} (o : Own K G H v b as) (eg : Same G G') (ag : Agree H G' as) : Rep K G' v b.d := by
  cases o with
  | im r => exact r.mono eg
  | ow h r => exact .lst (LsX.of (ag _ List.mem_cons_self _ trivial h)) (r.mono eg)
  | ol h r => exact .lst (LsX.of (ag _ List.mem_cons_self _ trivial h)) (r.data eg ag.tail)
  | oo t h r => exact .ins (ag _ List.mem_cons_self _ trivial h) (r.data eg ag.tail)
end
/-- the steady part with these cells added -/
def addG (G H : Hp) (as : List Addr) : Hp := fun a => if a ∈ as then H a else G a
theorem addG_same {G H : Hp} {as : List Addr} (h : ∀ a ∈ as, G a = none) : Same G (addG G H as) := Same.of fun a o e => by
  unfold addG
  rw [if_neg fun m => by rw [h a m] at e; cases e]
  exact e
theorem addG_agree {G H : Hp} {as : List Addr} : Agree H (addG G H as) as := fun a m o _ e => by
  unfold addG
  rw [if_pos m]
  exact e
theorem addG_in {G H : Hp} {as : List Addr} (h : Same G H) (hp : ∀ a ∈ as, PlA H a) : Same (addG G H as) H := fun a o e => by
  by_cases m : a ∈ as
  · have e2 : H a = some o := by
      unfold addG at e
      rwa [if_pos m] at e
    have p := (hp a m).pl o e2
    cases o <;> first | exact p.elim | exact e2
  · have e2 : G a = some o := by
      unfold addG at e
      rwa [if_neg m] at e
    have k := h a o e2
    cases o with
    | tbl ps =>
      refine ⟨k.1, fun t => k.2 ?_⟩
      obtain ⟨ps', h1, h2, h3⟩ := t
      rw [e] at h1
      cases h1
      refine ⟨ps, e2, h2, fun pos cv hc => ?_⟩
      obtain ⟨c, e3, e4⟩ := h3 pos cv hc
      refine ⟨c, e3, ?_⟩
      by_cases mc : c ∈ as
      · unfold addG at e4
        rw [if_pos mc] at e4
        exact ((hp c mc).pl _ e4).elim
      · unfold addG at e4
        rwa [if_neg mc] at e4
    | _ => exact k
theorem Grow.adds {G0 H0 G' H' : Hp} {as : List Addr} (g : Grow G0 H0 G' H') (h : ∀ a ∈ as, H0 a = none ∧ G' a = none) (hp : ∀ a ∈ as, PlA H' a) : Grow G0 H0 (addG G' H' as) H' :=
  ⟨g.g.trans (addG_same fun a m => (h a m).2), addG_in g.i hp, g.h, fun a a1 a2 => by
    unfold addG
    rw [if_neg fun m => a2 (h a m).1]
    exact g.u a a1 a2⟩

structure Base where
  G : Hp
  H : Hp
/-- the state of a def's body: bs what the caller had; the slots; the cells of one's own, slot by slot -/
structure EnvA (K : PySem.W.Frag) (bs : Base) (G H : Hp) (σ : L2.St) (Γ : List B) (A : Nat → List Addr) : Prop where
  gr : Grow bs.G bs.H G H
  len : σ.length = Γ.length
  at_ : ∀ (i : Nat) (b : B), Γ[i]? = some b → b ≠ .no → ∃ v, σ[i]? = some (some v) ∧ Own K G H v b (A i)
  fr : ∀ (i : Nat) (a : Addr), a ∈ A i → bs.H a = none ∧ G a = none ∧ PlA H a
  di : ∀ (i j : Nat) (a : Addr), i ≠ j → a ∈ A i → a ∈ A j → False
  nd : ∀ i : Nat, (A i).Nodup
  tb : TabsK K G
def EnvD (K : PySem.W.Frag) (bs : Base) (G H : Hp) (σ : L2.St) (Γ : List B) : Prop := ∃ A, EnvA K bs G H σ Γ A
structure Post where
  nx : List B → Prop
  rt : D → Prop
  bk : List B → Prop := fun _ => False
  ct : List B → Prop := fun _ => False
  ro : B → Prop := fun _ => False
/-- a thing of one's own that the caller had not -/
structure New (K : PySem.W.Frag) (H0 G H : Hp) (v : V) (b : B) (as : List Addr) : Prop where
  o : Own K G H v b as
  nd : as.Nodup
  fr : ∀ a ∈ as, H0 a = none ∧ G a = none
structure Fits (K : PySem.W.Frag) (bs : Base) (P : Post) (Dn : Ends) : Prop where
  nx : ∀ Γ σ G H, P.nx Γ → EnvD K bs G H σ Γ → Dn.nx σ H
  bk : ∀ Γ σ G H, P.bk Γ → EnvD K bs G H σ Γ → Dn.bk σ H
  ct : ∀ Γ σ G H, P.ct Γ → EnvD K bs G H σ Γ → Dn.ct σ H
  rt : ∀ d v G H, P.rt d → Grow bs.G bs.H G H → Rep K G v d → Dn.rt v H
  ro : ∀ b v as G H, P.ro b → Grow bs.G bs.H G H → New K bs.H G H v b as → Dn.rt v H
def DS (K : PySem.W.Frag) (t : TS) (Γ : List B) (P : Post) : Prop := ∀ (bs : Base) (σ : L2.St) (G H : Hp) (Dn : Ends), EnvD K bs G H σ Γ → Fits K bs P Dn → t Dn σ H

def fzB : B → B
  | .no => .no
  | .im d => .im d
  | .ow ds => .im (.lst ds)
  | .ol cs => .im (.lst (cs.map Ch.d))
  | .oo _ C fs => .im (.ins C (chF fs))
theorem fzB_d {b : B} (h : b ≠ .no) : fzB b = .im b.d := by
  cases b with
  | no => exact (h rfl).elim
  | _ => rfl
def fz (Γ : List B) : List B := Γ.map fzB
theorem set_get {α : Type} {xs : List α} {i j : Nat} {x y : α} (h : (xs.set i x)[j]? = some y) : (i = j ∧ y = x ∧ i < xs.length) ∨ (i ≠ j ∧ xs[j]? = some y) := by
  by_cases hij : i = j
  · subst hij
    have hl := (List.getElem?_eq_some_iff.mp h).1
    rw [List.length_set] at hl
    rw [List.getElem?_set_self hl] at h
    cases h
    exact .inl ⟨rfl, rfl, hl⟩
  · rw [List.getElem?_set_ne hij] at h
    exact .inr ⟨hij, h⟩
section
variable {bs : Base} {G H G' H' : Hp} {σ : L2.St} {Γ : List B} {A : Nat → List Addr}
theorem Own.im_rep {v : V} {d : D} {as : List Addr} (o : Own K G H v (.im d) as) : Rep K G v d := by
  cases o with
  | im r => exact r
theorem EnvA.sl (e : EnvA K bs G H σ Γ A) : Sl K G σ Γ := ⟨fun i d h =>
  let ⟨v, h1, h2⟩ := e.at_ i _ h (fun z => by cases z)
  ⟨v, h1, h2.im_rep⟩, e.len, e.tb⟩
theorem EnvA.grow (e : EnvA K bs G H σ Γ A) (g : Grow G H G' H') : EnvA K bs G' H' σ Γ A :=
  ⟨e.gr.trans g, e.len, fun i b h hb => by
    obtain ⟨v, h1, h2⟩ := e.at_ i b h hb
    exact ⟨v, h1, h2.mono g.g (Agree.of g.h)⟩, fun i a m => by
    obtain ⟨h1, h2, h3⟩ := e.fr i a m
    exact ⟨h1, g.u a h2 fun z => h3.ne z, h3.mono g.h⟩, e.di, e.nd, e.tb.mono g.g⟩
theorem EnvA.put (e : EnvA K bs G H σ Γ A) (i : Nat) {v : V} {b : B} {as : List Addr} (o : Own K G H v b as) (hf : ∀ a ∈ as, bs.H a = none ∧ G a = none) (hd : ∀ j a, j ≠ i → a ∈ A j → a ∈ as → False) (nd : as.Nodup) :
    EnvA K bs G H (σ.set i (some v)) (Γ.set i b) (fun j => if j = i then as else A j) :=
  ⟨e.gr, by rw [List.length_set, List.length_set]; exact e.len, fun j c h hc => by
    rcases set_get h with ⟨rfl, z, hl⟩ | ⟨hij, h⟩
    · subst z
      refine ⟨v, by rw [List.getElem?_set_self (by rw [e.len]; exact hl)], ?_⟩
      rw [if_pos rfl]
      exact o
    · obtain ⟨w, h1, h2⟩ := e.at_ j c h hc
      refine ⟨w, by rw [List.getElem?_set_ne hij]; exact h1, ?_⟩
      rw [if_neg fun z => hij z.symm]
      exact h2, fun j a m => by
    by_cases hj : j = i
    · rw [if_pos hj] at m
      exact ⟨(hf a m).1, (hf a m).2, o.ex a m⟩
    · rw [if_neg hj] at m
      exact e.fr j a m, fun j k a hjk m1 m2 => by
    by_cases hj : j = i
    · rw [if_pos hj] at m1
      rw [if_neg fun z => hjk (hj.trans z.symm)] at m2
      exact hd k a (fun z => hjk (hj.trans z.symm)) m2 m1
    · rw [if_neg hj] at m1
      by_cases hk : k = i
      · rw [if_pos hk] at m2
        exact hd j a hj m1 m2
      · rw [if_neg hk] at m2
        exact e.di j k a hjk m1 m2, fun j => by
    by_cases hj : j = i
    · rw [if_pos hj]
      exact nd
    · rw [if_neg hj]
      exact e.nd j, e.tb⟩
/-- a new thing of one's own is stored -/
theorem EnvA.fresh (e : EnvA K bs G H σ Γ A) (g : Grow G H G' H') (i : Nat) {v : V} {b : B} {as : List Addr} (n : New K H G' H' v b as) : EnvD K bs G' H' (σ.set i (some v)) (Γ.set i b) :=
  ⟨_, (e.grow g).put i n.o (fun a m => ⟨none_back e.gr.h (n.fr a m).1, (n.fr a m).2⟩) (fun j a _ m1 m2 => (e.fr j a m1).2.2.ne (n.fr a m2).1) n.nd⟩
/-- a cell of one's own is changed -/
theorem EnvA.change (e : EnvA K bs G H σ Γ A) {i : Nat} {b b' : B} {v : V} {l : Addr} {o : HO} (po : Pl o) (hi : Γ[i]? = some b) (hv : σ[i]? = some (some v)) (hl : l ∈ A i) (r : Own K G (upd H l o) v b' (A i)) : EnvA K bs G (upd H l o) σ (Γ.set i b') A := by
  obtain ⟨f1, f2, f3⟩ := e.fr i l hl
  refine ⟨e.gr.mut f1 f2 f3.pl, by rw [List.length_set]; exact e.len, fun j c h hc => ?_, fun j a m => ?_, e.di, e.nd, e.tb⟩
  · rcases set_get h with ⟨rfl, z, hlt⟩ | ⟨hij, h⟩
    · subst z
      exact ⟨v, hv, r⟩
    · obtain ⟨w, h1, h2⟩ := e.at_ j c h hc
      exact ⟨w, h1, h2.mono (Same.refl G) (Agree.upd fun m => e.di i j l hij hl m)⟩
  · obtain ⟨h1, h2, h3⟩ := e.fr j a m
    refine ⟨h1, h2, ?_⟩
    by_cases ha : a = l
    · rw [ha]
      exact ⟨o, upd_same, po⟩
    · obtain ⟨u, u1, u2⟩ := h3
      exact ⟨u, by rw [upd_ne ha]; exact u1, u2⟩
/-- what is one's own is given up: from now on it stands still -/
theorem EnvA.give (e : EnvA K bs G H σ Γ A) {i : Nat} {b : B} (hi : Γ[i]? = some b) (hb : b ≠ .no) : EnvA K bs (addG G H (A i)) H σ (Γ.set i (.im b.d)) (fun j => if j = i then [] else A j) := by
  have hs : Same G (addG G H (A i)) := addG_same fun a m => (e.fr i a m).2.1
  refine ⟨e.gr.adds (fun a m => ⟨(e.fr i a m).1, (e.fr i a m).2.1⟩) fun a m => (e.fr i a m).2.2, by rw [List.length_set]; exact e.len, fun j c h hc => ?_, fun j a m => ?_, fun j k a hjk m1 m2 => ?_, fun j => ?_, e.tb.mono hs⟩
  · rcases set_get h with ⟨rfl, z, hlt⟩ | ⟨hij, h⟩
    · subst z
      obtain ⟨v, h1, h2⟩ := e.at_ i b hi hb
      refine ⟨v, h1, ?_⟩
      rw [if_pos rfl]
      exact .im (h2.data hs addG_agree)
    · obtain ⟨w, h1, h2⟩ := e.at_ j c h hc
      refine ⟨w, h1, ?_⟩
      rw [if_neg fun z => hij z.symm]
      exact h2.mono hs (Agree.of (Same.refl H))
  · by_cases hj : j = i
    · rw [if_pos hj] at m
      cases m
    · rw [if_neg hj] at m
      obtain ⟨h1, h2, h3⟩ := e.fr j a m
      refine ⟨h1, ?_, h3⟩
      unfold addG
      rw [if_neg fun z => e.di j i a hj m z]
      exact h2
  · by_cases hj : j = i
    · rw [if_pos hj] at m1
      cases m1
    · by_cases hk : k = i
      · rw [if_pos hk] at m2
        cases m2
      · rw [if_neg hj] at m1
        rw [if_neg hk] at m2
        exact e.di j k a hjk m1 m2
  · by_cases hj : j = i
    · rw [if_pos hj]
      exact List.nodup_nil
    · rw [if_neg hj]
      exact e.nd j
theorem EnvD.gr (e : EnvD K bs G H σ Γ) : Grow bs.G bs.H G H := let ⟨_, e⟩ := e; e.gr
theorem EnvD.sl (e : EnvD K bs G H σ Γ) : Sl K G σ Γ := let ⟨_, e⟩ := e; e.sl
theorem EnvD.grow (e : EnvD K bs G H σ Γ) (g : Grow G H G' H') : EnvD K bs G' H' σ Γ := let ⟨A, e⟩ := e; ⟨A, e.grow g⟩
theorem EnvD.set (e : EnvD K bs G H σ Γ) (i : Nat) {v : V} {d : D} (r : Rep K G v d) : EnvD K bs G H (σ.set i (some v)) (Γ.set i (.im d)) :=
  let ⟨_, e⟩ := e
  ⟨_, e.put i (.im r) (fun _ m => (List.not_mem_nil m).elim) (fun _ _ _ _ m => (List.not_mem_nil m).elim) List.nodup_nil⟩
theorem New.list {G H : Hp} {p : Addr} {vs : List V} {ds : List D} (e : Same G H) (hp : H p = none) (r : RepA K G vs ds) : New K H G (upd H p (.lst vs)) (.ref p) (.ow ds) [p] :=
  ⟨.ow upd_same r, List.nodup_cons.mpr ⟨by simp, List.nodup_nil⟩, fun a m => by
    rw [List.mem_singleton.mp m]
    exact ⟨hp, none_back e hp⟩⟩
theorem Grow.side {G H H' : Hp} (e : Same G H) (h : Same H H') : Grow G H G H' := ⟨Same.refl G, e.trans h, h, fun _ a _ => a⟩
/-- a new list of one's own -/
theorem EnvD.own (e : EnvD K bs G H σ Γ) (i : Nat) {p : Addr} {vs : List V} {ds : List D} (hp : H p = none) (r : RepA K G vs ds) : EnvD K bs G (upd H p (.lst vs)) (σ.set i (some (.ref p))) (Γ.set i (.ow ds)) :=
  let ⟨_, e⟩ := e
  e.fresh (Grow.side e.gr.i (same_new hp)) i (New.list e.gr.i hp r)
theorem EnvD.give (e : EnvD K bs G H σ Γ) {i : Nat} {b : B} (hi : Γ[i]? = some b) (hb : b ≠ .no) : ∃ G', EnvD K bs G' H σ (Γ.set i (.im b.d)) :=
  let ⟨_, e⟩ := e
  ⟨_, _, e.give hi hb⟩
theorem EnvD.drop (e : EnvD K bs G H σ Γ) (i : Nat) : EnvD K bs G H σ (Γ.set i .no) :=
  let ⟨A, e⟩ := e
  ⟨A, e.gr, by rw [List.length_set]; exact e.len, fun j c h hc => by
    rcases set_get h with ⟨_, z, _⟩ | ⟨_, h⟩
    · exact (hc z).elim
    · exact e.at_ j c h hc, e.fr, e.di, e.nd, e.tb⟩
theorem EnvD.fz (e : EnvD K bs G H σ Γ) : Sl K H σ (fz Γ) := let ⟨A, e⟩ := e
  ⟨fun i d h => by
    unfold DL.fz at h
    rw [List.getElem?_map] at h
    cases hb : Γ[i]? with
    | none =>
      rw [hb] at h
      cases h
    | some b =>
      rw [hb] at h
      by_cases hn : b = .no
      · subst hn
        cases h
      · rw [show (Option.map fzB (some b)) = some (.im b.d) from congrArg some (fzB_d hn)] at h
        cases h
        obtain ⟨v, h1, h2⟩ := e.at_ i b hb hn
        exact ⟨v, h1, h2.data e.gr.i (Agree.of (Same.refl H))⟩, by unfold DL.fz; rw [List.length_map]; exact e.len, e.tb.mono e.gr.i⟩
theorem Grow.out {bG bH G1 G H : Hp} (g : Grow G1 bH G H) (h : Same bG G1) (u : ∀ a, bG a = none → bH a ≠ none → G1 a = none) : Grow bG bH G H := ⟨h.trans g.g, g.i, g.h, fun a a1 a2 => g.u a (u a a1 a2) a2⟩
theorem EnvD.inn {G1 : Hp} (e : EnvD K bs G H σ Γ) (s : Same G1 G) (h : Same bs.G G1) : EnvD K ⟨G1, bs.H⟩ G H σ Γ :=
  let ⟨A, e⟩ := e
  ⟨A, ⟨s, e.gr.i, e.gr.h, fun a a1 a2 => e.gr.u a (h.free a1) a2⟩, e.len, e.at_, e.fr, e.di, e.nd, e.tb⟩
theorem EnvD.out {G1 : Hp} (e : EnvD K ⟨G1, bs.H⟩ G H σ Γ) (h : Same bs.G G1) (u : ∀ a, bs.G a = none → bs.H a ≠ none → G1 a = none) : EnvD K bs G H σ Γ :=
  let ⟨A, e⟩ := e
  ⟨A, e.gr.out h u, e.len, e.at_, e.fr, e.di, e.nd, e.tb⟩
end

/-! ## expressions in a body: the lists of one's own out of sight, or read for a flat answer -/
def DEo (K : PySem.W.Frag) (te : TE) (Γ : List B) (d : D) : Prop := ∀ (σ : L2.St) (bs : Base) (G H : Hp), EnvD K bs G H σ Γ → ∀ Q : VK, (∀ v G' H', Grow G H G' H' → Rep K G' v d → Q v H') → te σ H Q
def DTo (K : PySem.W.Frag) (t : TT) (Γ : List B) (b : Bool) : Prop := ∀ (σ : L2.St) (bs : Base) (G H : Hp), EnvD K bs G H σ Γ → ∀ Q : Bool → Hp → Prop, (∀ G' H', Grow G H G' H' → Q b H') → t σ H Q
def DAo (K : PySem.W.Frag) (t : TA) (Γ : List B) (ds : List D) : Prop := ∀ (σ : L2.St) (bs : Base) (G H : Hp), EnvD K bs G H σ Γ → ∀ Q : List V → Hp → Prop, (∀ vs G' H', Grow G H G' H' → RepA K G' vs ds → Q vs H') → t σ H Q
/-- an expression that hands a new thing of one's own -/
def DX (K : PySem.W.Frag) (te : TE) (Γ : List B) (b : B) : Prop := ∀ (σ : L2.St) (G H : Hp), Same G H → Sl K G σ Γ → ∀ Q : VK, (∀ v G' H' as, Grow G H G' H' → New K H G' H' v b as → Q v H') → te σ H Q
def DXo (K : PySem.W.Frag) (te : TE) (Γ : List B) (b : B) : Prop := ∀ (σ : L2.St) (bs : Base) (G H : Hp), EnvD K bs G H σ Γ → ∀ Q : VK, (∀ v G' H' as, Grow G H G' H' → New K H G' H' v b as → Q v H') → te σ H Q
section
variable {Γ Γ' : List B} {te : TE} {t : TT} {ta : TA} {d : D} {ds es : List D} {b : Bool} {c : B}
theorem deo (h : DE K te Γ d) : DEo K te Γ d := fun σ bs G H e Q q => h σ G H e.gr.i e.sl Q q
theorem deo_fz (h : DE K te (fz Γ) d) (hf : flat d = true) : DEo K te Γ d := fun σ bs G H e Q q => h σ H H (Same.refl H) e.fz Q fun v G' H' g r => q v G H' (Grow.side e.gr.i g.h) (r.flat hf)
theorem dto (h : DT K t Γ b) : DTo K t Γ b := fun σ bs G H e Q q => h σ G H e.gr.i e.sl Q q
theorem dto_fz (h : DT K t (fz Γ) b) : DTo K t Γ b := fun σ bs G H e Q q => h σ H H (Same.refl H) e.fz Q fun G' H' g => q G H' (Grow.side e.gr.i g.h)
theorem dao (h : DAr K ta Γ ds) : DAo K ta Γ ds := fun σ bs G H e Q q => h σ G H e.gr.i e.sl Q q
theorem RepA.flat {G G' : Hp} : ∀ {vs : List V} {ds : List D}, RepA K G vs ds → ds.all DL.flat = true → RepA K G' vs ds
  | _, _, .nil, _ => .nil
  | _, _, .cons h t, e => by
    rw [List.all_cons, Bool.and_eq_true] at e
    exact .cons (h.flat e.1) (RepA.flat t e.2)
theorem dao_fz (h : DAr K ta (fz Γ) ds) (hf : ds.all flat = true) : DAo K ta Γ ds := fun σ bs G H e Q q => h σ H H (Same.refl H) e.fz Q fun v G' H' g r => q v G H' (Grow.side e.gr.i g.h) (r.flat hf)
theorem dxo (h : DX K te Γ c) : DXo K te Γ c := fun σ bs G H e Q q => h σ G H e.gr.i e.sl Q q
/-- a new thing of one's own, given up at once -/
theorem de_new (h : DX K te Γ c) (e : c.d = d) : DE K te Γ d := fun σ G H s sl Q q => h σ G H s sl Q fun v G' H' as g n =>
  q v _ H' (g.adds n.fr n.o.ex) (by
    rw [← e]
    exact n.o.data (addG_same fun a m => (n.fr a m).2) addG_agree)
theorem dx_im (h : DE K te Γ d) : DX K te Γ (.im d) := fun σ G H s sl Q q => h σ G H s sl Q fun v G' H' g r => q v G' H' [] g ⟨.im r, List.nodup_nil, fun _ m => (List.not_mem_nil m).elim⟩
theorem dx_lst (h : DAr K ta Γ ds) (hl : ds.length ≤ 1000) : DX K (tLst ta) Γ (.ow ds) := fun σ G H s sl Q q => h σ G H s sl _ fun vs G1 H1 g1 r1 => ⟨by rw [r1.len]; exact Nat.le_trans hl (by decide), fun p hp =>
  q (.ref p) G1 _ [p] (g1.trans (Grow.side g1.i (same_new hp))) (by
    obtain ⟨n1, n2, n3⟩ := New.list (K := K) g1.i hp r1
    exact ⟨n1, n2, fun a m => ⟨none_back g1.h (n3 a m).1, (n3 a m).2⟩⟩)⟩
end

/-! ## statements -/
section
variable {Γ Γ' : List B} {te tl : TE} {c : TT} {ta : TA} {t u tb : TS} {d : D} {ds es : List D} {b : Bool} {P : Post} {g : TG} {wi : TI}
theorem ds_seq (h : DS K t Γ { P with nx := fun Γ' => DS K u Γ' P }) : DS K (tSeq t u) Γ P := fun bs σ G H Dn e f =>
  h bs σ G H _ e ⟨fun Γ' σ' G' H' k e' => k bs σ' G' H' Dn e' f, f.bk, f.ct, f.rt, f.ro⟩
/-- a statement, then what follows from one known state -/
theorem ds_cut (X : List B) (h : DS K t Γ { P with nx := fun Γ' => Γ' = X }) (k : DS K u X P) : DS K (tSeq t u) Γ P := fun bs σ G H Dn e f =>
  h bs σ G H _ e ⟨fun Γ' σ' G' H' z e' => by
    have z' : Γ' = X := z
    subst z'
    exact k bs σ' G' H' Dn e' f, f.bk, f.ct, f.rt, f.ro⟩
/-- the same by what is known -/
theorem ds_cutP (I : List B → Prop) (h : DS K t Γ { P with nx := I }) (k : ∀ X, I X → DS K u X P) : DS K (tSeq t u) Γ P := fun bs σ G H Dn e f =>
  h bs σ G H _ e ⟨fun Γ' σ' G' H' z e' => k Γ' z bs σ' G' H' Dn e' f, f.bk, f.ct, f.rt, f.ro⟩
theorem ds_imp {P' : Post} (h : DS K t Γ P) (h1 : ∀ Γ, P.nx Γ → P'.nx Γ) (h2 : ∀ Γ, P.bk Γ → P'.bk Γ) (h3 : ∀ Γ, P.ct Γ → P'.ct Γ) (h4 : ∀ d, P.rt d → P'.rt d) (h5 : ∀ b, P.ro b → P'.ro b) : DS K t Γ P' := fun bs σ G H Dn e f =>
  h bs σ G H Dn e ⟨fun Γ σ G H k => f.nx Γ σ G H (h1 Γ k), fun Γ σ G H k => f.bk Γ σ G H (h2 Γ k), fun Γ σ G H k => f.ct Γ σ G H (h3 Γ k), fun d v G H k => f.rt d v G H (h4 d k), fun b v as G H k => f.ro b v as G H (h5 b k)⟩
theorem ds_next (h : P.nx Γ) : DS K tNext Γ P := fun bs σ G H Dn e f => f.nx Γ σ G H h e
theorem ds_break (h : P.bk Γ) : DS K tBreak Γ P := fun bs σ G H Dn e f => f.bk Γ σ G H h e
theorem ds_cont (h : P.ct Γ) : DS K tCont Γ P := fun bs σ G H Dn e f => f.ct Γ σ G H h e
theorem ds_asg (i : Nat) (h : DEo K te Γ d) (k : P.nx (Γ.set i (.im d))) : DS K (tAsg te (gName i)) Γ P := fun bs σ G H Dn e f =>
  h σ bs G H e _ fun v G' H' g r => f.nx _ _ G' H' k ((e.grow g).set i r)
theorem ds_drop (h : DEo K te Γ d) (k : P.nx Γ) : DS K (tDrop te) Γ P := fun bs σ G H Dn e f => h σ bs G H e _ fun v G' H' g r => f.nx _ _ G' H' k (e.grow g)
theorem ds_ret (h : DEo K te Γ d) (k : P.rt d) : DS K (tRet te) Γ P := fun bs σ G H Dn e f => h σ bs G H e _ fun v G' H' g r => f.rt d v G' H' k (e.gr.trans g) r
theorem ds_retN (k : P.rt .non) : DS K tRetN Γ P := fun bs σ G H Dn e f => f.rt .non .non G H k e.gr .non
theorem ds_give (i : Nat) (hi : Γ[i]? = some (.ow ds)) (k : DS K t (Γ.set i (.im (.lst ds))) P) : DS K t Γ P := fun bs σ G H Dn e f => by
  obtain ⟨G', e'⟩ := e.give hi (fun z => by cases z)
  exact k bs σ G' H Dn e' f
theorem ds_giveB (i : Nat) {w : B} (hi : Γ[i]? = some w) (hw : w ≠ .no) (k : DS K t (Γ.set i (.im w.d)) P) : DS K t Γ P := fun bs σ G H Dn e f => by
  obtain ⟨G', e'⟩ := e.give hi hw
  exact k bs σ G' H Dn e' f
theorem ds_forget (i : Nat) (k : DS K t (Γ.set i .no) P) : DS K t Γ P := fun bs σ G H Dn e f => k bs σ G H Dn (e.drop i) f
theorem ds_if (h : DTo K c Γ b) (h1 : b = true → DS K t Γ P) (h2 : b = false → DS K u Γ P) : DS K (tIfS c t u) Γ P := fun bs σ G H Dn e f =>
  h σ bs G H e _ fun G' H' g => by
    cases b with
    | true => exact h1 rfl bs σ G' H' Dn (e.grow g) f
    | false => exact h2 rfl bs σ G' H' Dn (e.grow g) f
/-- an if whose way is known -/
theorem ds_ifT (h : DTo K c Γ true) (h1 : DS K t Γ P) : DS K (tIfS c t u) Γ P := ds_if h (fun _ => h1) fun z => by cases z
theorem ds_ifF (h : DTo K c Γ false) (h1 : DS K u Γ P) : DS K (tIfS c t u) Γ P := ds_if h (fun z => by cases z) fun _ => h1
theorem ds_par (i j : Nat) {a : D} (h : DAo K ta Γ [a, d]) (k : P.nx ((Γ.set i (.im a)).set j (.im d))) : DS K (tPar i j ta) Γ P := fun bs σ G H Dn e f =>
  h σ bs G H e _ fun vs G' H' g r => by
    cases r with
    | cons r1 r2 =>
      cases r2 with
      | cons r2 r3 =>
        cases r3
        exact ⟨_, _, rfl, f.nx _ _ G' H' k (((e.grow g).set i r1).set j r2)⟩
theorem ds_par3 (i j l : Nat) {a a2 : D} (h : DAo K ta Γ [a, a2, d]) (k : P.nx (((Γ.set i (.im a)).set j (.im a2)).set l (.im d))) : DS K (tPar3 i j l ta) Γ P := fun bs σ G H Dn e f =>
  h σ bs G H e _ fun vs G' H' g r => by
    cases r with
    | cons r1 r2 =>
      cases r2 with
      | cons r2 r3 =>
        cases r3 with
        | cons r3 r4 =>
          cases r4
          exact ⟨_, _, _, rfl, f.nx _ _ G' H' k ((((e.grow g).set i r1).set j r2).set l r3)⟩
/-- a target of any kind -/
theorem ds_asgG (h : DEo K te Γ d) (hg : DG K g (fun _ => True) d Γ Γ') (k : P.nx Γ') : DS K (tAsg te g) Γ P := fun bs σ G H Dn e f =>
  h σ bs G H e _ fun v G' H' g' r => hg v G' H' σ _ (fun σ Γ => EnvD K bs G' H' σ Γ) g'.i r (fun σ Γ i v d _ rv I => I.set i rv) (e.grow g') fun σ' I => f.nx _ _ G' H' k I
/-- x = [..] for a list of one's own -/
theorem ds_own (i : Nat) (h : DAo K ta Γ ds) (hl : ds.length ≤ 1000) (k : P.nx (Γ.set i (.ow ds))) : DS K (tAsg (tLst ta) (gName i)) Γ P := fun bs σ G H Dn e f =>
  h σ bs G H e _ fun vs G' H' g r => ⟨by rw [r.len]; exact Nat.le_trans hl (by decide), fun p hp => f.nx _ _ G' _ k ((e.grow g).own i hp r)⟩
/-- x = e for a new thing of one's own -/
theorem ds_asgX (i : Nat) {w : B} (h : DXo K te Γ w) (k : P.nx (Γ.set i w)) : DS K (tAsg te (gName i)) Γ P := fun bs σ G H Dn ⟨A, e⟩ f =>
  h σ bs G H ⟨A, e⟩ _ fun v G' H' as g n => f.nx _ _ G' H' k (e.fresh g i n)
theorem ds_retX {w : B} (h : DXo K te Γ w) (k : P.ro w) : DS K (tRet te) Γ P := fun bs σ G H Dn e f =>
  h σ bs G H e _ fun v G' H' as g n => f.ro w v as G' H' k (e.gr.trans g) ⟨n.o, n.nd, fun a m => ⟨none_back e.gr.h (n.fr a m).1, (n.fr a m).2⟩⟩
theorem ds_retO (i : Nat) {w : B} (hi : Γ[i]? = some w) (hw : w ≠ .no) (k : P.ro w) : DS K (tRet (tVar i)) Γ P := fun bs σ G H Dn ⟨A, e⟩ f => by
  obtain ⟨v, h1, h2⟩ := e.at_ i w hi hw
  exact ⟨v, h1, f.ro w v (A i) G H k e.gr ⟨h2, e.nd i, fun a m => ⟨(e.fr i a m).1, (e.fr i a m).2.1⟩⟩⟩
theorem own_at {bs : Base} {G H : Hp} {σ : L2.St} {i : Nat} {A : Nat → List Addr} (e : EnvA K bs G H σ Γ A) (hi : Γ[i]? = some (.ow ds)) : ∃ l vs, σ[i]? = some (some (.ref l)) ∧ H l = some (.lst vs) ∧ RepA K G vs ds ∧ A i = [l] := by
  obtain ⟨v, h1, h2⟩ := e.at_ i _ hi (fun z => by cases z)
  generalize hA : A i = as at h2
  cases h2 with
  | ow h r => exact ⟨_, _, h1, h, r, rfl⟩
/-- one's own list is changed -/
theorem own_set {bs : Base} {G H : Hp} {σ : L2.St} {i : Nat} {A : Nat → List Addr} {l : Addr} {ws : List V} (e : EnvA K bs G H σ Γ A) (hi : Γ[i]? = some (.ow ds)) (hl : σ[i]? = some (some (.ref l))) (r : RepA K G ws es) : EnvA K bs G (upd H l (.lst ws)) σ (Γ.set i (.ow es)) A := by
  obtain ⟨l', vs, a1, a2, a3, a4⟩ := own_at e hi
  rw [a1] at hl
  cases hl
  refine e.change trivial hi a1 (by rw [a4]; exact List.mem_cons_self) ?_
  rw [a4]
  exact .ow upd_same r
/-- x.append(e) -/
theorem ds_app (i : Nat) (hi : Γ[i]? = some (.ow ds)) (h : DEo K te Γ d) (hl : ds.length ≤ 100000) (k : P.nx (Γ.set i (.ow (ds ++ [d])))) : DS K (tDrop (tBM K "list" rAppend (tVar i) (tCons te tNil))) Γ P := fun bs σ G H Dn ⟨A, e⟩ f => by
  obtain ⟨l, vs, h1, h2, h3, _⟩ := own_at e hi
  refine ⟨_, h1, Or.inl ⟨rfl, _, Or.inl (Or.inl h2)⟩, h σ bs G H ⟨A, e⟩ _ fun v G' H' g r => ?_⟩
  obtain ⟨l', vs', a1, a2, a3, _⟩ := own_at (e.grow g) hi
  rw [h1] at a1
  cases a1
  refine ⟨l, vs', v, rfl, rfl, a2, ?_, f.nx _ _ G' _ k ⟨A, own_set (e.grow g) hi h1 (a3.app (.cons r .nil))⟩⟩
  rw [a3.len]
  exact Nat.lt_of_le_of_lt hl (by decide)
/-- l.extend(b), b tracked or locked or written -/
def rExtX (K : PySem.W.Frag) : V → List V → Hp → VK → Prop := fun x vs H Q => ∃ l b xs zs, x = .ref l ∧ vs = [.ref b] ∧ H l = some (.lst xs) ∧ LsX K H b zs ∧ xs.length + zs.length ≤ sizeLine ∧ Q .non (upd H l (.lst (xs ++ zs)))
/-- x.extend(e), e a list that stands still -/
theorem ds_ext (i : Nat) (hi : Γ[i]? = some (.ow ds)) (h : DEo K te Γ (.lst es)) (hl : ds.length + es.length ≤ 100000) (k : P.nx (Γ.set i (.ow (ds ++ es)))) : DS K (tDrop (tBM K "list" (rExtX K) (tVar i) (tCons te tNil))) Γ P := fun bs σ G H Dn ⟨A, e⟩ f => by
  obtain ⟨l, vs, h1, h2, h3, _⟩ := own_at e hi
  refine ⟨_, h1, Or.inl ⟨rfl, _, Or.inl (Or.inl h2)⟩, h σ bs G H ⟨A, e⟩ _ fun v G' H' g r => ?_⟩
  obtain ⟨l', vs', a1, a2, a3, _⟩ := own_at (e.grow g) hi
  rw [h1] at a1
  cases a1
  cases r with
  | @lst b zs _ hs ra =>
    refine ⟨l, b, vs', zs, rfl, rfl, a2, ls_same g.i hs, ?_, f.nx _ _ G' _ k ⟨A, own_set (e.grow g) hi h1 (a3.app ra)⟩⟩
    rw [a3.len, ra.len]
    exact Nat.le_trans hl (by decide)
/-- x = l.pop(), l a list of one's own; any target -/
theorem ds_pop (i : Nat) (hi : Γ[i]? = some (.ow (ds ++ [d]))) (hg : DG K g (fun _ => True) d (Γ.set i (.ow ds)) Γ') (k : P.nx Γ') : DS K (tAsg (tBM0 K "list" rPop (tVar i)) g) Γ P := fun bs σ G H Dn ⟨A, e⟩ f => by
  obtain ⟨l, vs, h1, h2, h3, _⟩ := own_at e hi
  have hn : (ds ++ [d])[vs.length - 1]? = some d := by
    rw [h3.len, List.length_append, List.length_singleton, Nat.add_sub_cancel, List.getElem?_append_right (Nat.le_refl _), Nat.sub_self]
    rfl
  obtain ⟨v, hv, rv⟩ := h3.at hn
  have hr := h3.dropLast
  rw [List.dropLast_concat] at hr
  refine ⟨_, h1, Or.inl ⟨rfl, _, Or.inl (Or.inl h2)⟩, l, vs, v, rfl, rfl, h2, hv, ?_⟩
  have e2 : EnvD K bs G (upd H l (.lst vs.dropLast)) σ (Γ.set i (.ow ds)) := ⟨A, own_set e hi h1 hr⟩
  exact hg v G _ σ _ (fun σ Γ => EnvD K bs G (upd H l (.lst vs.dropLast)) σ Γ) e2.gr.i rv (fun σ Γ i v d _ rv I => I.set i rv) e2 fun σ' I => f.nx _ _ G _ k I
/-- x[e] = f in a list of one's own -/
theorem ds_setIx (i n : Nat) {te ti : TE} {m : Int} (hi : Γ[i]? = some (.ow ds)) (h : DEo K te Γ d) (hm : DEo K ti Γ (.int m)) (hn : ixN ds.length m = some n) (k : P.nx (Γ.set i (.ow (ds.set n d)))) : DS K (tAsg te (gSub (tVar i) ti rSetL)) Γ P := fun bs σ G H Dn ⟨A, e⟩ f => by
  refine h σ bs G H ⟨A, e⟩ _ fun v G' H' g r => ?_
  obtain ⟨l, vs, h1, h2, h3, _⟩ := own_at (e.grow g) hi
  refine ⟨_, h1, hm σ bs G' H' ⟨A, e.grow g⟩ _ fun w G2 H2 g2 r2 => ?_⟩
  cases r2
  obtain ⟨l', vs', a1, a2, a3, _⟩ := own_at ((e.grow g).grow g2) hi
  rw [h1] at a1
  cases a1
  exact ⟨l, vs', m, n, rfl, rfl, a2, by rw [a3.len]; exact hn, f.nx _ _ G2 _ k ⟨A, own_set ((e.grow g).grow g2) hi h1 (a3.set (r.mono g2.g) n)⟩⟩
theorem ds_for (hi : DI K wi Γ ds) (I : Nat → List B → Prop) (h0 : I 0 Γ)
    (hs : ∀ i d Γ', ds[i]? = some d → I i Γ' → ∃ Γ2, DG K g (fun _ => True) d Γ' Γ2 ∧ DS K tb Γ2 { P with nx := I (i + 1), ct := I (i + 1), bk := P.nx }) (hd : ∀ Γ', I ds.length Γ' → P.nx Γ') : DS K (tFor wi g tb) Γ P := fun bs σ G H Dn e f =>
  hi σ G H e.gr.i e.sl _ fun J G1 H1 g1 W => by
    obtain ⟨Y, w, y⟩ := W.w
    refine for_it w (fun i σ' H' => ∃ Γ' G', I i Γ' ∧ EnvD K bs G' H' σ' Γ' ∧ Same G1 G') ⟨Γ, G1, h0, e.grow g1, Same.refl _⟩ (fun i σ' H' _ ⟨Γ', G', _, e', s'⟩ => s'.trans e'.gr.i) ?_ ?_
    · rintro i x σ' H2 H3 hlt ⟨Γ', G', hI, e', s'⟩ hy
      have hx : ds[i]? = some ds[i] := List.getElem?_eq_getElem hlt
      obtain ⟨G3, g3, r3⟩ := y i G' H2 x H3 ds[i] s' e'.gr.i hy hx
      obtain ⟨Γ2, hg, hb⟩ := hs i ds[i] Γ' hx hI
      refine hg x G3 H3 σ' _ (fun σ Γ => EnvD K bs G3 H3 σ Γ) g3.i r3 (fun σ Γ j v d _ rv I => I.set j rv) (e'.grow g3) fun σ2 I2 => ?_
      have hb0 : Same bs.G G1 := e.gr.g.trans g1.g
      have hu0 : ∀ a, bs.G a = none → bs.H a ≠ none → G1 a = none := (e.gr.trans g1).u
      refine hb ⟨G1, bs.H⟩ σ2 G3 H3 _ (I2.inn (s'.trans g3.g) hb0) ⟨fun Γ' σ' G' H' k e => ⟨Γ', G', k, e.out hb0 hu0, e.gr.g⟩, fun Γ' σ' G' H' k e => f.nx _ _ G' H' k (e.out hb0 hu0), fun Γ' σ' G' H' k e => ⟨Γ', G', k, e.out hb0 hu0, e.gr.g⟩, fun d v G' H' k gr r => f.rt d v G' H' k (gr.out hb0 hu0) r, fun w v as G' H' k gr n => f.ro w v as G' H' k (gr.out hb0 hu0) n⟩
    · rintro σ' H' ⟨Γ', G', hI, e', _⟩
      exact f.nx _ _ G' H' (hd _ hI) e'
/-- while, by a number that falls -/
theorem ds_while (I : Nat → List B → Prop) (m0 : Nat) (h0 : I m0 Γ)
    (hs : ∀ m Γ', I m Γ' → ∃ b, DTo K c Γ' b ∧ (b = true → DS K tb Γ' { P with nx := fun Γ2 => ∃ m', m' < m ∧ I m' Γ2, ct := fun Γ2 => ∃ m', m' < m ∧ I m' Γ2, bk := P.nx }) ∧ (b = false → P.nx Γ')) : DS K (tWhile c tb) Γ P := fun bs σ G H Dn e f => by
  refine ⟨fun m σ' H' => ∃ Γ' G', I m Γ' ∧ EnvD K bs G' H' σ' Γ', ⟨m0, Γ, G, h0, e⟩, ?_⟩
  rintro m σ' H' ⟨Γ', G', hI, e'⟩
  obtain ⟨b, hc, h1, h2⟩ := hs m Γ' hI
  refine hc σ' bs G' H' e' _ fun G2 H2 g2 => ?_
  cases b with
  | true =>
    exact ⟨fun σ3 H3 => ∃ m', m' < m ∧ ∃ Γ3 G3, I m' Γ3 ∧ EnvD K bs G3 H3 σ3 Γ3, fun σ3 H3 ⟨m', lt, q⟩ => ⟨m', lt, q⟩,
      h1 rfl bs σ' G2 H2 _ (e'.grow g2) ⟨fun Γ3 σ3 G3 H3 ⟨m', lt, k⟩ e3 => ⟨m', lt, Γ3, G3, k, e3⟩, fun Γ3 σ3 G3 H3 k e3 => f.nx _ _ G3 H3 k e3, fun Γ3 σ3 G3 H3 ⟨m', lt, k⟩ e3 => ⟨m', lt, Γ3, G3, k, e3⟩, f.rt, f.ro⟩⟩
  | false => exact f.nx _ _ G2 H2 (h2 rfl) (e'.grow g2)
end

/-! ## defs -/
/-- a def that hands back data for data; R: which -/
def spR (K : PySem.W.Frag) (n : Nat) (R : List D → D → Prop) : Sp := fun vs H Q _ => ∃ (G : Hp) (ds : List D) (d : D), ds.length = n ∧ Same G H ∧ TabsK K G ∧ RepA K G vs ds ∧ R ds d ∧ ∀ v G' H', Grow G H G' H' → Rep K G' v d → Q v H'
/-- a def that hands back a new thing of one's own -/
def spO (K : PySem.W.Frag) (n : Nat) (R : List D → B → Prop) : Sp := fun vs H Q _ => ∃ (G : Hp) (ds : List D) (b : B), ds.length = n ∧ Same G H ∧ TabsK K G ∧ RepA K G vs ds ∧ R ds b ∧ ∀ v G' H' as, Grow G H G' H' → New K H G' H' v b as → Q v H'
/-- __init__: self a new object without fields -/
def spI (K : PySem.W.Frag) (C : Addr) (n : Nat) (R : List D → List (Str × Ch) → Prop) : Sp := fun vs H Q _ => ∃ (p dx : Addr) (ws : List V) (G H0 : Hp) (ds : List D) (fs : List (Str × Ch)), vs = .ref p :: ws ∧ ds.length = n ∧ H = upd H0 p (.ins C dx []) ∧ H0 p = none ∧ Same G H0 ∧ TabsK K G ∧ RepA K G ws ds ∧ R ds fs ∧
  ∀ G' H' as, Grow G H0 G' H' → New K H0 G' H' (.ref p) (.oo (some p) C fs) as → Q .non H'
def startB (n : Nat) (ds : List D) : List B := ds.map B.im ++ List.replicate (n - ds.length) B.no
theorem sl_start {G : Hp} {N : List Str} {vs : List V} {ds : List D} (tb : TabsK K G) (r : RepA K G vs ds) : Sl K G (L2.start N vs) (startB N.length ds) := ⟨fun i d h => by
  unfold startB at h
  rw [List.getElem?_append] at h
  split at h
  · rename_i hi
    rw [List.getElem?_map] at h
    cases e : ds[i]? with
    | none =>
      rw [e] at h
      cases h
    | some z =>
      rw [e] at h
      cases h
      obtain ⟨v, h1, h2⟩ := r.at e
      refine ⟨v, ?_, h2⟩
      unfold L2.start
      rw [List.getElem?_append_left (by rw [List.length_map]; exact (List.getElem?_eq_some_iff.mp h1).1), List.getElem?_map, h1]
      rfl
  · rw [List.getElem?_replicate] at h
    split at h
    · cases h
    · cases h
    done, by
  unfold L2.start startB
  rw [List.length_append, List.length_append, List.length_map, List.length_map, List.length_replicate, List.length_replicate, r.len], tb⟩
theorem start_im {n : Nat} {ds : List D} {i : Nat} {b : B} (h : (startB n ds)[i]? = some b) (hb : b ≠ .no) : ∃ d, b = .im d := by
  unfold startB at h
  rw [List.getElem?_append] at h
  split at h
  · rw [List.getElem?_map] at h
    cases e : ds[i]? with
    | none =>
      rw [e] at h
      cases h
    | some z =>
      rw [e] at h
      cases h
      exact ⟨_, rfl⟩
  · rw [List.getElem?_replicate] at h
    split at h
    · cases h
      exact (hb rfl).elim
    · cases h
theorem env_start {G H : Hp} {N : List Str} {vs : List V} {ds : List D} (e : Same G H) (tb : TabsK K G) (r : RepA K G vs ds) : EnvD K ⟨G, H⟩ G H (L2.start N vs) (startB N.length ds) :=
  ⟨fun _ => [], Grow.refl e, (sl_start (N := N) tb r).len, fun i b h hb => by
    obtain ⟨d, rfl⟩ := start_im h hb
    obtain ⟨v, h1, h2⟩ := (sl_start (N := N) tb r).im i d h
    exact ⟨v, h1, .im h2⟩, fun _ _ m => (List.not_mem_nil m).elim, fun _ _ _ _ m => (List.not_mem_nil m).elim, fun _ => List.nodup_nil, tb⟩
theorem ds_run {t : TS} {N : List Str} {R : List D → D → Prop} {vs : List V} {H : Hp} {Q : VK} {E : XK} (h : ∀ ds d, R ds d → DS K t (startB N.length ds) { nx := fun _ => d = .non, rt := fun r => r = d }) {n : Nat} (q : spR K n R vs H Q E) :
    t { nx := fun _ H' => Q .non H', rt := Q } (L2.start N vs) H := by
  obtain ⟨G, ds, d, _, e, tb, r, hR, k⟩ := q
  refine h ds d hR ⟨G, H⟩ _ G H _ (env_start e tb r) ⟨?_, ?_, ?_, ?_, ?_⟩
  · intro Γ σ G' H' z e'
    have z' : d = .non := z
    exact k .non G' H' e'.gr (by rw [z']; exact .non)
  · intro _ _ _ _ z
    exact z.elim
  · intro _ _ _ _ z
    exact z.elim
  · intro d' v G' H' z gr r'
    have z' : d' = d := z
    rw [← z'] at k
    exact k v G' H' gr r'
  · intro _ _ _ _ _ z
    exact z.elim
theorem ds_runO {t : TS} {N : List Str} {R : List D → B → Prop} {vs : List V} {H : Hp} {Q : VK} {E : XK} (h : ∀ ds d, R ds d → DS K t (startB N.length ds) { nx := fun _ => False, rt := fun _ => False, ro := fun r => r = d }) {n : Nat} (q : spO K n R vs H Q E) :
    t { nx := fun _ H' => Q .non H', rt := Q } (L2.start N vs) H := by
  obtain ⟨G, ds, d, _, e, tb, r, hR, k⟩ := q
  refine h ds d hR ⟨G, H⟩ _ G H _ (env_start e tb r) ⟨?_, ?_, ?_, ?_, ?_⟩
  · intro _ _ _ _ z
    exact z.elim
  · intro _ _ _ _ z
    exact z.elim
  · intro _ _ _ _ z
    exact z.elim
  · intro _ _ _ _ z
    exact z.elim
  · intro d' v as G' H' z gr r'
    have z' : d' = d := z
    rw [← z'] at k
    exact k v G' H' as gr r'
theorem pure_ok {P : Program} {w : World} {K : PySem.W.Frag} {mg : Str → Option Value} {base : Heap} {x qual : Str} {st : Stmt} {f : Addr} {fd : FuncData} {N ps : List Str} {k n : Nat} {R : List D → D → Prop} (F : Fun K x qual st f fd) (S : FnScope N ps (defScope st)) (hn : ps.length = n)
    (hb : ∀ (cdv : Value) (A : Around) (outer : List Env) (s : Shared) (H : Hp) (E : XK), Room k (A.deeper (envOfC qual (defScope st) s.heap.objs.size f cdv)) →
      ∃ t, PSs (cxOf CX0 P w K mg base N qual (defScope st) f cdv A outer s H E).nox (defBody st) t ∧ ∀ ds d, R ds d → DS K t (startB N.length ds) { nx := fun _ => d = .non, rt := fun r => r = d }) :
    FnOk P w K mg base CX0 (k + 1) f fd ps (spR K n R) :=
  F.ok S (fun vs H Q E h => by
    obtain ⟨G, ds, d, h1, _, _, r, _⟩ := h
    rw [r.len, h1, hn]) fun cdv A outer s H vs Q E hr h => by
    obtain ⟨t, h1, h2⟩ := hb cdv A outer s H E hr
    exact ⟨t, h1, ds_run h2 h⟩
theorem pure_okO {P : Program} {w : World} {K : PySem.W.Frag} {mg : Str → Option Value} {base : Heap} {x qual : Str} {st : Stmt} {f : Addr} {fd : FuncData} {N ps : List Str} {k n : Nat} {R : List D → B → Prop} (F : Fun K x qual st f fd) (S : FnScope N ps (defScope st)) (hn : ps.length = n)
    (hb : ∀ (cdv : Value) (A : Around) (outer : List Env) (s : Shared) (H : Hp) (E : XK), Room k (A.deeper (envOfC qual (defScope st) s.heap.objs.size f cdv)) →
      ∃ t, PSs (cxOf CX0 P w K mg base N qual (defScope st) f cdv A outer s H E).nox (defBody st) t ∧ ∀ ds d, R ds d → DS K t (startB N.length ds) { nx := fun _ => False, rt := fun _ => False, ro := fun r => r = d }) :
    FnOk P w K mg base CX0 (k + 1) f fd ps (spO K n R) :=
  F.ok S (fun vs H Q E h => by
    obtain ⟨G, ds, d, h1, _, _, r, _⟩ := h
    rw [r.len, h1, hn]) fun cdv A outer s H vs Q E hr h => by
    obtain ⟨t, h1, h2⟩ := hb cdv A outer s H E hr
    exact ⟨t, h1, ds_runO h2 h⟩
theorem env_startI {G H0 : Hp} {N : List Str} {p C dx : Addr} {ws : List V} {ds : List D} (hN : 0 < N.length) (e : Same G H0) (hp : H0 p = none) (tb : TabsK K G) (r : RepA K G ws ds) :
    EnvD K ⟨G, H0⟩ G (upd H0 p (.ins C dx [])) (L2.start N (.ref p :: ws)) (.oo (some p) C [] :: startB (N.length - 1) ds) := by
  have hs : L2.start N (.ref p :: ws) = some (.ref p) :: L2.start N.tail ws := by
    unfold L2.start
    rw [List.map_cons, List.length_cons, List.length_tail]
    show some (V.ref p) :: (List.map some ws ++ List.replicate (N.length - (ws.length + 1)) none) = _
    rw [show N.length - (ws.length + 1) = N.length - 1 - ws.length by omega]
  have hl : N.tail.length = N.length - 1 := List.length_tail
  have q := sl_start (N := N.tail) tb r
  rw [hl] at q
  refine ⟨fun i => if i = 0 then [p] else [], (Grow.refl e).mut hp (none_back e hp) (fun u hu => by rw [hp] at hu; cases hu), by rw [hs, List.length_cons, List.length_cons, q.len], fun i b h hb => ?_, fun i a m => ?_, fun i j a hij m1 m2 => ?_, fun i => ?_, tb⟩
  · match i, h with
    | 0, h =>
      cases h
      exact ⟨.ref p, by rw [hs]; rfl, by rw [if_pos rfl]; exact .oo (fun q z => by cases z; rfl) upd_same .nil⟩
    | i + 1, h =>
      have h' : (startB (N.length - 1) ds)[i]? = some b := h
      obtain ⟨d, rfl⟩ := start_im h' hb
      obtain ⟨v, h1, h2⟩ := q.im i d h'
      exact ⟨v, by rw [hs]; exact h1, by rw [if_neg (by omega)]; exact .im h2⟩
  · split at m
    · rw [List.mem_singleton.mp m]
      exact ⟨hp, none_back e hp, _, upd_same, trivial⟩
    · cases m
  · split at m1
    · split at m2
      · omega
      · cases m2
    · cases m1
  · split
    · exact List.nodup_cons.mpr ⟨by simp, List.nodup_nil⟩
    · exact List.nodup_nil
theorem pure_okI {P : Program} {w : World} {K : PySem.W.Frag} {mg : Str → Option Value} {base : Heap} {x qual : Str} {st : Stmt} {f : Addr} {fd : FuncData} {N ps : List Str} {k n : Nat} {C : Addr} {R : List D → List (Str × Ch) → Prop} (F : Fun K x qual st f fd) (S : FnScope N ps (defScope st)) (hn : ps.length = n + 1) (hN : 0 < N.length)
    (hb : ∀ (cdv : Value) (A : Around) (outer : List Env) (s : Shared) (H : Hp) (E : XK), Room k (A.deeper (envOfC qual (defScope st) s.heap.objs.size f cdv)) →
      ∃ t, PSs (cxOf CX0 P w K mg base N qual (defScope st) f cdv A outer s H E).nox (defBody st) t ∧ ∀ p ds fs, R ds fs → DS K t (.oo (some p) C [] :: startB (N.length - 1) ds) { nx := fun Γ => Γ[0]? = some (.oo (some p) C fs), rt := fun _ => False }) :
    FnOk P w K mg base CX0 (k + 1) f fd ps (spI K C n R) :=
  F.ok S (fun vs H Q E h => by
    obtain ⟨p, dx, ws, G, H0, ds, fs, rfl, h1, _, _, _, _, r, _⟩ := h
    rw [List.length_cons, r.len, h1, hn]) fun cdv A outer s H vs Q E hr h => by
    obtain ⟨t, h1, h2⟩ := hb cdv A outer s H E hr
    obtain ⟨p, dx, ws, G, H0, ds, fs, rfl, hl, rfl, hp, e, tb, r, hR, q⟩ := h
    refine ⟨t, h1, h2 p ds fs hR ⟨G, H0⟩ _ G _ _ (env_startI hN e hp tb r) ⟨?_, ?_, ?_, ?_, ?_⟩⟩
    · rintro Γ σ G' H' z ⟨A', e'⟩
      have z' : Γ[0]? = some (.oo (some p) C fs) := z
      obtain ⟨v, v1, v2⟩ := e'.at_ 0 _ z' (fun z => by cases z)
      have hv : v = .ref p := by
        generalize A' 0 = as at v2
        cases v2 with
        | oo t _ _ => rw [← t p rfl]
      subst hv
      exact q G' H' (A' 0) e'.gr ⟨v2, e'.nd 0, fun a m => ⟨(e'.fr 0 a m).1, (e'.fr 0 a m).2.1⟩⟩
    · intro _ _ _ _ z
      exact z.elim
    · intro _ _ _ _ z
      exact z.elim
    · intro _ _ _ _ z
      exact z.elim
    · intro _ _ _ _ _ z
      exact z.elim
theorem de_call {R : List D → D → Prop} {E : XK} {ta : TA} {Γ : List B} {ds : List D} {d : D} {n : Nat} (h : DAr K ta Γ ds) (hR : R ds d) (hn : ds.length = n) : DE K (tCall (spR K n R) [] E ta) Γ d := fun σ G H e s Q q =>
  h σ G H e s _ fun vs G1 H1 g1 r1 => ⟨G1, ds, d, hn, g1.i, s.tb.mono g1.g, by rw [List.append_nil]; exact r1, hR, fun v G' H' g r => q v G' H' (g1.trans g) r⟩
theorem New.back {H0 H G' H' : Hp} {v : V} {b : B} {as : List Addr} (n : New K H G' H' v b as) (h : Same H0 H) : New K H0 G' H' v b as := ⟨n.o, n.nd, fun a m => ⟨none_back h (n.fr a m).1, (n.fr a m).2⟩⟩
theorem dx_call {R : List D → B → Prop} {E : XK} {ta : TA} {Γ : List B} {ds : List D} {b : B} {n : Nat} (h : DAr K ta Γ ds) (hR : R ds b) (hn : ds.length = n) : DX K (tCall (spO K n R) [] E ta) Γ b := fun σ G H e s Q q =>
  h σ G H e s _ fun vs G1 H1 g1 r1 => ⟨G1, ds, b, hn, g1.i, s.tb.mono g1.g, by rw [List.append_nil]; exact r1, hR, fun v G' H' as g r => q v G' H' as (g1.trans g) (r.back g1.h)⟩
theorem dx_make {R : List D → List (Str × Ch) → Prop} {E : XK} {ta : TA} {Γ : List B} {C : Addr} {ds : List D} {fs : List (Str × Ch)} {n : Nat} (h : DAr K ta Γ ds) (hR : R ds fs) (hn : ds.length = n) : DX K (tMake C (spI K C n R) [] E ta) Γ (.oo none C fs) := fun σ G H e s Q q =>
  h σ G H e s _ fun vs G1 H1 g1 r1 x dx hx hdx hne => by
    have s1 : Same H1 (upd H1 dx (.own x)) := same_new hdx
    have hx2 : (upd H1 dx (HO.own x)) x = none := by
      rw [upd_ne hne.symm]
      exact hx
    refine ⟨x, dx, vs, G1, upd H1 dx (.own x), ds, fs, by rw [List.append_nil], hn, rfl, hx2, g1.i.trans s1, s.tb.mono g1.g, r1, hR, fun G' H' as g n => ⟨rfl, ?_⟩⟩
    have n1 := n.back s1
    refine q (.ref x) G' H' as (g1.trans ⟨g.g, g.i, s1.trans g.h, fun a a1 a2 => g.u a a1 fun z => a2 (none_back s1 z)⟩) ⟨?_, n1.nd, fun a m => ⟨none_back g1.h (n1.fr a m).1, (n1.fr a m).2⟩⟩
    generalize hA : as = as' 
    have o := n1.o
    rw [hA] at o
    cases o with
    | oo t h r => exact .oo (fun _ z => by cases z) h r
end DL

/-! DP: operators and built-ins over plain data. -/
namespace DL
open PySem PySem.Spec PyProof.Rows L2
variable {K : PySem.W.Frag}

/-! ## operators: two readings in one -/
def rOr (r r' : R2) : R2 := fun x y H Q => r x y H Q ∨ r' x y H Q
section
variable {X : Cx} {f : Value → Value → Sem Value} {r r' : R2}
theorem opr_or (h : OpR X f r) (h' : OpR X f r') : OpR X f (rOr r r') := fun pins s σ H x y v u Q I rx ry k => by
  rcases k with k | k
  · exact h pins s σ H x y v u Q I rx ry k
  · exact h' pins s σ H x y v u Q I rx ry k
def CMulX (i j : Int) : Prop := CMul i j ∨ i.natAbs.log2 + j.natAbs.log2 < 100000000
theorem CMulX.ok {i j : Int} (h : CMulX i j) : IntMulOk i j := by
  rcases h with h | h
  · exact h.ok
  · have b : ∀ z : Int, Builtin.Int.intBits z ≤ z.natAbs.log2 + 1 := fun z => by
      unfold Builtin.Int.intBits
      split <;> omega
    have b1 := b i
    have b2 := b j
    have line : bitsLine = 134217728 := by decide
    unfold IntMulOk
    intro z
    rw [Bool.and_eq_true] at z
    have z2 := z.2
    unfold Builtin.Int.intTooBig at z2
    have z3 := of_decide_eq_true z2
    rw [line] at z3
    omega
theorem op_mulX : OpR X (binaryOp .Mult) (rI CMulX fun i j => .int (i * j)) := opI fun _ _ _ _ _ _ _ hc q => mul_int q hc.ok
theorem lst_get {pins : List (Addr × Obj)} {s : Shared} {σ : L2.St} {H : Hp} {l : Addr} {xs : List V} (I : Inv X pins σ H s) (h : LsX X.K H l xs) :
    xs.length ≤ sizeLine ∧ ∃ (its : List Value) (n : Nat), Vals xs its ∧ xs.length = its.length ∧ s.heap.get? l = some { cls := .type "list", data := .seq its.toArray n } := by
  rcases h with h | ⟨its, n, h1, h2, h3⟩
  · obtain ⟨z, its, n, r, e⟩ := h.ok I.hok
    exact ⟨z, its, n, r, r.length, e⟩
  · have q := h3.length
    have q2 : its.toList.length = its.size := Array.length_toList
    exact ⟨by omega, its.toList, n, h3, h3.length, by rw [I.kIn l _ h1, Array.toArray_toList]⟩
/-- list + list -/
def rCatX (K : PySem.W.Frag) : R2 := fun x y H Q => ∃ l b xs zs, x = .ref l ∧ y = .ref b ∧ LsX K H l xs ∧ LsX K H b zs ∧ xs.length + zs.length ≤ sizeLine ∧ ∀ p, H p = none → Q (.ref p) (upd H p (.lst (xs ++ zs)))
theorem op_catX : OpR X (binaryOp .Add) (rCatX X.K) := by
  intro pins s σ H x y v u Q I rx ry h
  obtain ⟨l, b, xs, zs, rfl, rfl, hl, hb, hz, q⟩ := h
  cases rx
  cases ry
  obtain ⟨_, i1, n1, r1, l1, e1⟩ := lst_get I hl
  obtain ⟨_, i2, n2, r2, l2, e2⟩ := lst_get I hb
  refine PySem.P.add_list e1 e2 ?_ (by rw [List.size_toArray, List.size_toArray, ← l1, ← l2]; exact hz)
  rw [show i1.toArray ++ i2.toArray = (i1 ++ i2).toArray by simp]
  exact ⟨.ref _, _, I.lnew (t' := s.toks) (r1.append r2) (by rw [List.length_append]; exact hz), rfl, q _ I.fresh⟩
def rAddX (K : PySem.W.Frag) : R2 := rOr (rI0 fun i j => .int (i + j)) (rCatX K)
theorem addK (K : PySem.W.Frag) (h : X.K = K := by rfl) : OpR X (binaryOp .Add) (rAddX K) := h ▸ opr_or op_add op_catX
/-- list * int: a list that stands unlocked -/
def rRepX (K : PySem.W.Frag) : R2 := fun x y H Q => ∃ l k xs, x = .ref l ∧ y = .int k ∧ LsX K H l xs ∧ -(2 ^ 63) ≤ k ∧ k < 2 ^ 63 ∧ xs.length * k.toNat ≤ sizeLine ∧ ∀ p, H p = none → Q (.ref p) (upd H p (.lst (List.replicate k.toNat xs).flatten))
theorem op_repX : OpR X (binaryOp .Mult) (rRepX X.K) := by
  intro pins s σ H x y v u Q I rx ry h
  obtain ⟨l, k, xs, rfl, rfl, hh, lo, hi, hz, q⟩ := h
  cases rx
  obtain ⟨t, rfl⟩ := ry
  obtain ⟨_, its, n, r, hl, e⟩ := lst_get I hh
  have many : its.toArray.size * k.toNat ≤ sizeLine := by rw [List.size_toArray, ← hl]; exact hz
  have cap : ¬ its.toArray.size * k.toNat > (2 ^ 63 - 1) / 8 := by
    have line : (sizeLine : Nat) ≤ (2 ^ 63 - 1) / 8 := by decide
    omega
  have fits : ¬ (!Builtin.List.listFitsIndex k) = true := by rw [fitsIndex_both lo hi]; exact Bool.false_ne_true
  have long : ¬ Builtin.List.listTooLong (its.toArray.size * k.toNat) = true := by rw [notLongL many]; exact Bool.false_ne_true
  have made : List.foldl (fun x1 x2 => x1 ++ x2) #[] (List.replicate (if its.toArray.isEmpty = true then 0 else k.toNat) its.toArray) = (List.replicate k.toNat its).flatten.toArray := by
    have all : ∀ m : Nat, List.foldl (fun x1 x2 => x1 ++ x2) #[] (List.replicate m its.toArray) = (List.replicate m its).flatten.toArray := fun m => by
      have z := foldl_rep its m []
      rwa [List.nil_append] at z
    rw [all]
    cases its with
    | nil => simp
    | cons a r2 => rw [if_neg (by simp)]
  refine wpAny_binaryOp_repeat_ref (T := "list") (U := "int") (by decide) ⟨_, e, rfl⟩ (fun s2 => typeIs_int s2 k t) noFill_list_mul PySem.F.fills_int_mul PySem.F.slot_int_rmul repeat_list PySem.F.slot_int_index.lookup
    (call_meets PySem.F.slot_int_rmul (typeIs_int s k t) PySem.F.entry_int_rmul (PySem.F.args_int_rmul_2 _ _) (int___rmul___int_list k t l its.toArray n)
      ⟨e, rfl, ⟨_, e, rfl⟩, call_meets PySem.F.slot_list_mul ⟨_, e, rfl⟩ PySem.F.entry_list_mul (PySem.F.args_list_mul_2 _ _) (AutoListH.list___mul___list_int_3 l its.toArray n k t fits cap long) ⟨e, ?_⟩⟩)
  rw [made]
  exact ⟨.ref _, _, I.lnew (t' := s.toks) (r.rep k.toNat) (by rw [PyProof.Rows.lm_len_rep_flat, Nat.mul_comm]; exact hz), rfl, q _ I.fresh⟩
def rMulX (K : PySem.W.Frag) : R2 := rOr (rI CMulX fun i j => .int (i * j)) (rRepX K)
theorem mulK (K : PySem.W.Frag) (h : X.K = K := by rfl) : OpR X (binaryOp .Mult) (rMulX K) := h ▸ opr_or op_mulX op_repX
end

/-! ## the written part by its name -/
def rLenX (K : PySem.W.Frag) : List V → Hp → VK → Prop := fun xs H Q => ∃ p ys, xs = [.ref p] ∧ (SqL K H p ys ∨ SqT K H p ys) ∧ Q (.int ys.length) H
def rListX (K : PySem.W.Frag) : List V → Hp → VK → Prop := fun xs H Q => ∃ p ys, xs = [.ref p] ∧ (SqL K H p ys ∨ SqT K H p ys) ∧ ∀ l, H l = none → Q (.ref l) (upd H l (.lst ys))
section
variable {X : Cx}
theorem isiK (K : PySem.W.Frag) (h : X.K = K := by rfl) : CallR X (.builtin "isinstance") (rIsi K) := h ▸ call_isi
theorem lenK (K : PySem.W.Frag) (h : X.K = K := by rfl) : CallR X (.builtin "len") (rLenX K) := h ▸ (show CallR X _ (rLenX X.K) from call_len_seq)
theorem listK (K : PySem.W.Frag) (h : X.K = K := by rfl) : CallR X (.type "list") (rListX K) := h ▸ (show CallR X _ (rListX X.K) from call_list_of)
theorem sumK (K : PySem.W.Frag) (hc : X.calm = true) (h : X.K = K := by rfl) : CallR X (.builtin "sum") (rSum K) := h ▸ cr_sum hc
theorem allK (K : PySem.W.Frag) (hc : X.calm = true) (h : X.K = K := by rfl) : CallR X (.builtin "all") (rAll K) := h ▸ cr_all hc
theorem anyK (K : PySem.W.Frag) (hc : X.calm = true) (h : X.K = K := by rfl) : CallR X (.builtin "any") (rAny K) := h ▸ cr_any hc
theorem maxK (K : PySem.W.Frag) (hc : X.calm = true) (h : X.K = K := by rfl) : CallR X (.builtin "max") (rMax K) := h ▸ cr_max hc
theorem minK (K : PySem.W.Frag) (hc : X.calm = true) (h : X.K = K := by rfl) : CallR X (.builtin "min") (rMin K) := h ▸ cr_min hc
theorem sortedK (K : PySem.W.Frag) (h : X.K = K := by rfl) : CallR X (.builtin "sorted") (rSortedI K) := h ▸ cr_sortedI
theorem ixK (K : PySem.W.Frag) (h : X.K = K := by rfl) : IxR X (rIx K) := h ▸ ix_seq
theorem eqK (K : PySem.W.Frag) (hu : X.A.units + 64 < cLine) (h : X.K = K := by rfl) : OpR X (compareOp .Eq) (rEqD K) := h ▸ op_eqD hu
theorem neK (K : PySem.W.Frag) (hu : X.A.units + 64 < cLine) (h : X.K = K := by rfl) : OpR X (compareOp .NotEq) (rNeD K) := h ▸ op_neD hu
theorem inK (K : PySem.W.Frag) (h : X.K = K := by rfl) : OpR X (compareOp .In) (rIn K false) := h ▸ op_in_seq
theorem notInK (K : PySem.W.Frag) (h : X.K = K := by rfl) : OpR X (compareOp .NotIn) (rIn K true) := h ▸ op_notIn_seq
theorem sliceK (K : PySem.W.Frag) (h : X.K = K := by rfl) : SlR X (rSlL K) := h ▸ sl_list
theorem revK (K : PySem.W.Frag) {e : Expr} {te : TE} {k : Nat} {p1 p2 p3 pos : Pos} (he : PE X e te) (h : X.K = K := by rfl) : PE X (.Subscript e (.Slice none none (some (.UnaryOp .USub (.Constant (.int 1) k p1) p2)) p3) pos) (tRevL K te) := h ▸ pe_revL he
theorem pi_listK (K : PySem.W.Frag) {tg l : Expr} {tl : TE} (hl : PE X l tl) (h : X.K = K := by rfl) : PI X tg l (iList K tl) := h ▸ pi_list hl
theorem pi_tupK (K : PySem.W.Frag) {tg l : Expr} {tl : TE} (hl : PE X l tl) (h : X.K = K := by rfl) : PI X tg l (iTup K tl) := h ▸ pi_tup hl
theorem pg_tupK (K : PySem.W.Frag) {es : List Expr} {k : Nat} {pos : Pos} {t : TGs} {n : Nat} (hc : X.calm = true) (hg : PGs X es t) (h : X.K = K := by rfl)
    (hn : (assignEach es X.env).length = n := by rfl) (hst : (assignEach es X.env).findIdx? (·.1) = none := by rfl) : PG X (.Tuple es k pos) (gTup K n t) := h ▸ pg_tup hc hg hn hst
theorem pi_enumK (K : PySem.W.Frag) {e : Expr} {ta : TA} {p pos tpos : Pos} {elts : List Expr} {kk : Nat} (hg : Gl X "enumerate") (hm : X.mg "enumerate" = none) (ha : PA X [e] ta) (h : X.K = K := by rfl) (hs : starEach [e] X.env = [(false, eval e X.env)] := by rfl) :
    PI X (.Tuple elts kk tpos) (.Call (.Name "enumerate" p) [e] [] pos) (iEnum K ta) := h ▸ pi_enum hg hm ha hs
theorem pi_zipK (K : PySem.W.Frag) {e e2 : Expr} {ta : TA} {p pos tpos : Pos} {elts : List Expr} {kk : Nat} (hg : Gl X "zip") (hm : X.mg "zip" = none) (ha : PA X [e, e2] ta) (h : X.K = K := by rfl)
    (hs : starEach [e, e2] X.env = (false, eval e X.env) :: starEach [e2] X.env := by rfl) (hpl : (backTo pos (starEach [e2] X.env)).any (·.1) = false := by rfl) :
    PI X (.Tuple elts kk tpos) (.Call (.Name "zip" p) [e, e2] [] pos) (iZip K ta) := h ▸ pi_zip hg hm ha hs hpl
theorem pi_revK (K : PySem.W.Frag) {tg e : Expr} {ta : TA} {p pos : Pos} (hg : Gl X "reversed") (hm : X.mg "reversed" = none) (ha : PA X [e] ta) (h : X.K = K := by rfl) (hs : starEach [e] X.env = [(false, eval e X.env)] := by rfl) :
    PI X tg (.Call (.Name "reversed" p) [e] [] pos) (iRev K ta) := h ▸ pi_reversed hg hm ha hs
theorem fldK (K : PySem.W.Frag) {e : Expr} {te : TE} {f : Str} {pos : Pos} (he : PE X e te) (hb : attributeBase e f X.env (eval e X.env) = eval e X.env) (h : X.K = K := by rfl) : PE X (.Attribute e f pos) (tFld K te f) := h ▸ pe_fld he hb
end

/-! ## by data -/
section
variable {K : PySem.W.Frag}
theorem r2_I0 {g : Int → Int → V} {i j : Int} {d : D} (h : ∀ G, Rep K G (g i j) d) : R2D K (rI0 g) (.int i) (.int j) d := fun x y G H e r1 r2 Q q => by
  cases r1
  cases r2
  exact ⟨i, j, rfl, rfl, q _ G H (Grow.refl e) (h G)⟩
theorem r2_I {C : Int → Int → Prop} {g : Int → Int → V} {i j : Int} {d : D} (hc : C i j) (h : ∀ G, Rep K G (g i j) d) : R2D K (rI C g) (.int i) (.int j) d := fun x y G H e r1 r2 Q q => by
  cases r1
  cases r2
  exact ⟨i, j, rfl, rfl, hc, q _ G H (Grow.refl e) (h G)⟩
theorem r2_or1 {r r' : R2} {d e f : D} (h : R2D K r d e f) : R2D K (rOr r r') d e f := fun x y G H s r1 r2 Q q => .inl (h x y G H s r1 r2 Q q)
theorem r2_or2 {r r' : R2} {d e f : D} (h : R2D K r' d e f) : R2D K (rOr r r') d e f := fun x y G H s r1 r2 Q q => .inr (h x y G H s r1 r2 Q q)
theorem r2_add {i j : Int} : R2D K (rAddX K) (.int i) (.int j) (.int (i + j)) := r2_or1 (r2_I0 fun _ => .int _)
theorem r2_cat {a b : List D} (h : a.length + b.length ≤ 100000) : R2D K (rAddX K) (.lst a) (.lst b) (.lst (a ++ b)) := r2_or2 fun x y G H e r1 r2 Q q => by
  cases r1 with
  | lst h1 a1 =>
    cases r2 with
    | lst h2 a2 =>
      refine ⟨_, _, _, _, rfl, rfl, ls_same e h1, ls_same e h2, ?_, fun p hp => q _ _ _ (Grow.new e hp) (.lst (LsX.of upd_same) ((a1.app a2).mono (same_new (none_back e hp))))⟩
      rw [a1.len, a2.len]
      exact Nat.le_trans h (by decide)
theorem r2_sub {i j : Int} : R2D K (rI0 fun i j => .int (i - j)) (.int i) (.int j) (.int (i - j)) := r2_I0 fun _ => .int _
theorem r2_mul {i j : Int} (h : CMulX i j) : R2D K (rMulX K) (.int i) (.int j) (.int (i * j)) := r2_or1 (r2_I h fun _ => .int _)
theorem r2_rep {a : List D} {k : Int} (h0 : 0 ≤ k ∧ k ≤ 100000) (h : a.length * k.toNat ≤ 100000) : R2D K (rMulX K) (.lst a) (.int k) (.lst (List.replicate k.toNat a).flatten) := r2_or2 fun x y G H e r1 r2 Q q => by
  cases r2
  cases r1 with
  | lst h1 a1 =>
    refine ⟨_, _, _, rfl, rfl, ls_same e h1, by omega, by omega, ?_, fun p hp => q _ _ _ (Grow.new e hp) (.lst (LsX.of upd_same) ((a1.reps k.toNat).mono (same_new (none_back e hp))))⟩
    rw [a1.len]
    exact Nat.le_trans h (by decide)
/-- one thing, many times -/
theorem r2_rep1 {d : D} {n : Nat} (h : n ≤ 100000) : R2D K (rMulX K) (.lst [d]) (.int (n : Int)) (.lst (List.replicate n d)) := by
  have q := r2_rep (K := K) (a := [d]) (k := (n : Int)) ⟨by omega, by omega⟩ (by rw [Int.toNat_natCast, List.length_singleton]; omega)
  rw [Int.toNat_natCast] at q
  have e : ∀ m : Nat, (List.replicate m [d]).flatten = List.replicate m d := fun m => by
    induction m with
    | zero => rfl
    | succ m ih => rw [List.replicate_succ, List.flatten_cons, ih]; rfl
  rwa [e] at q
theorem r2_fdiv {i j : Int} (h : CDivW i j) : R2D K (rI CDivW fun i j => .int (i / j)) (.int i) (.int j) (.int (i / j)) := r2_I h fun _ => .int _
theorem r2_mod {i j : Int} (h : 0 < j) : R2D K (rI (fun _ j => 0 < j) fun i j => .int (i % j)) (.int i) (.int j) (.int (i % j)) := r2_I h fun _ => .int _
theorem r2_pow {i j : Int} (h : CPow i j) : R2D K (rI CPow fun i j => .int (i ^ j.toNat)) (.int i) (.int j) (.int (i ^ j.toNat)) := r2_I h fun _ => .int _
theorem r2_lt {i j : Int} : R2D K (rI0 fun i j => .bl (decide (i < j))) (.int i) (.int j) (.bl (decide (i < j))) := r2_I0 fun _ => .bl _
theorem r2_le {i j : Int} : R2D K (rI0 fun i j => .bl (decide (i ≤ j))) (.int i) (.int j) (.bl (decide (i ≤ j))) := r2_I0 fun _ => .bl _
theorem r2_gt {i j : Int} : R2D K (rI0 fun i j => .bl (decide (j < i))) (.int i) (.int j) (.bl (decide (j < i))) := r2_I0 fun _ => .bl _
theorem r2_ge {i j : Int} : R2D K (rI0 fun i j => .bl (decide (j ≤ i))) (.int i) (.int j) (.bl (decide (j ≤ i))) := r2_I0 fun _ => .bl _
theorem r1_neg {i : Int} : R1D K (rU fun i => .int (-i)) (.int i) (.int (-i)) := fun x G H e r Q q => by
  cases r
  exact ⟨i, rfl, q _ G H (Grow.refl e) (.int _)⟩
theorem r2_isB {a b : Bool} : R2D K rIsB (.bl a) (.bl b) (.bl (decide (a = b))) := fun x y G H e r1 r2 Q q => by
  cases r1
  cases r2
  exact ⟨a, b, rfl, rfl, q _ G H (Grow.refl e) (.bl _)⟩
theorem r2_notB {a b : Bool} : R2D K rNotB (.bl a) (.bl b) (.bl (!decide (a = b))) := fun x y G H e r1 r2 Q q => by
  cases r1
  cases r2
  exact ⟨a, b, rfl, rfl, q _ G H (Grow.refl e) (.bl _)⟩

/-! ## equality -/
mutual
def py : D → PyData
  | .bl b => .bool b
  | .int i => .int i
  | .str z => .str z
  | .lst ds => .list (pyA ds)
  | .tup ds => .tuple (pyA ds)
  | .non | .dct | .ins _ _ | .ty _ | .cls _ | .op _ => .none
def pyA : List D → List PyData
  | [] => []
  | d :: ds => py d :: pyA ds
end
/-- numbers, truths, None, in lists and tuples at most n deep -/
def deep : Nat → D → Bool
  | _, .int _ => true
  | _, .bl _ => true
  | _, .non => true
  | n + 1, .lst ds => ds.all (deep n)
  | n + 1, .tup ds => ds.all (deep n)
  | _, _ => false
theorem dp_of {H : Hp} : ∀ (n : Nat) {v : V} {d : D}, Rep K H v d → deep n d = true → Dp K H v (py d) := by
  intro n
  induction n with
  | zero =>
    intro v d r h
    cases r with
    | non => exact .non
    | bl b => exact .bl b
    | int i => exact .int i
    | str z => cases h
    | lst _ _ => cases h
    | tup _ _ => cases h
    | ty _ => cases h
    | cls _ => cases h
    | op _ => cases h
    | dct _ => cases h
    | ins _ _ => cases h
  | succ n ih =>
    have all : ∀ {vs : List V} {ds : List D}, RepA K H vs ds → ds.all (deep n) = true → DpAll K H vs (pyA ds) := fun {vs ds} => by
      intro r
      induction ds generalizing vs with
      | nil =>
        intro _
        cases r
        exact .nil
      | cons d ds ihd =>
        intro h
        rw [List.all_cons, Bool.and_eq_true] at h
        cases r with
        | cons r1 r2 => exact .cons (ih r1 h.1) (ihd r2 h.2)
    intro v d r h
    cases r with
    | non => exact .non
    | bl b => exact .bl b
    | int i => exact .int i
    | str z => cases h
    | lst a b => exact .lst a.sq (all b h)
    | tup a b => exact .tup (Or.inl a) (all b h)
    | ty _ => cases h
    | cls _ => cases h
    | op _ => cases h
    | dct _ => cases h
    | ins _ _ => cases h
theorem lay_of : ∀ (n : Nat) {d : D}, deep n d = true → (py d).canLay0 = true ∧ (py d).depth ≤ n := by
  intro n
  induction n with
  | zero =>
    intro d h
    cases d <;> first | (exact ⟨rfl, Nat.le_refl _⟩) | cases h
  | succ n ih =>
    have all : ∀ {ds : List D}, ds.all (deep n) = true → PyData.canLayAll0 (pyA ds) = true ∧ PyData.depthAll (pyA ds) ≤ n := fun {ds} => by
      induction ds with
      | nil => exact fun _ => ⟨rfl, Nat.zero_le _⟩
      | cons d ds ihd =>
        intro h
        rw [List.all_cons, Bool.and_eq_true] at h
        obtain ⟨h1, h2⟩ := ih h.1
        obtain ⟨h3, h4⟩ := ihd h.2
        refine ⟨?_, ?_⟩
        · show PyData.canLayAll0 (py d :: pyA ds) = true
          rw [PyData.canLayAll0, h1, h3]
          rfl
        · show PyData.depthAll (py d :: pyA ds) ≤ n
          rw [PyData.depthAll]
          omega
    intro d h
    cases d with
    | lst ds =>
      obtain ⟨h1, h2⟩ := all (show ds.all (deep n) = true from h)
      refine ⟨?_, ?_⟩
      · show PyData.canLay0 (.list (pyA ds)) = true
        rw [PyData.canLay0]
        exact h1
      · show PyData.depth (.list (pyA ds)) ≤ n + 1
        rw [PyData.depth]
        omega
    | tup ds =>
      obtain ⟨h1, h2⟩ := all (show ds.all (deep n) = true from h)
      refine ⟨?_, ?_⟩
      · show PyData.canLay0 (.tuple (pyA ds)) = true
        rw [PyData.canLay0]
        exact h1
      · show PyData.depth (.tuple (pyA ds)) ≤ n + 1
        rw [PyData.depth]
        omega
    | non => exact ⟨rfl, Nat.zero_le _⟩
    | bl _ => exact ⟨rfl, Nat.zero_le _⟩
    | int _ => exact ⟨rfl, Nat.zero_le _⟩
    | str _ => cases h
    | dct => cases h
    | ins _ _ => cases h
    | ty _ => cases h
    | cls _ => cases h
    | op _ => cases h
theorem shaped_of {d : D} (n : Nat) (h : deep n d = true) (hn : n ≤ 64) : SeqAt.shaped (py d) = true := by
  obtain ⟨h1, h2⟩ := lay_of n h
  unfold SeqAt.shaped
  rw [h1, decide_eq_true (Nat.le_trans h2 hn)]
  rfl
/-- == of data -/
def qv (d e : D) : Bool := PyData.eqv (py d) (py e)
def qvA (ds es : List D) : Bool := PyData.eqvAll (pyA ds) (pyA es)
theorem r2_eq {d e : D} (n m : Nat) (hd : deep n d = true) (he : deep m e = true) (hn : n ≤ 64 := by decide) (hm : m ≤ 64 := by decide) : R2D K (rEqD K) d e (.bl (qv d e)) := fun x y G H s r1 r2 Q q =>
  ⟨py d, py e, dp_of n (r1.mono s) hd, dp_of m (r2.mono s) he, shaped_of n hd hn, shaped_of m he hm, q _ G H (Grow.refl s) (.bl _)⟩
theorem r2_ne {d e : D} (n m : Nat) (hd : deep n d = true) (he : deep m e = true) (hn : n ≤ 64 := by decide) (hm : m ≤ 64 := by decide) : R2D K (rNeD K) d e (.bl (!qv d e)) := fun x y G H s r1 r2 Q q =>
  ⟨py d, py e, dp_of n (r1.mono s) hd, dp_of m (r2.mono s) he, shaped_of n hd hn, shaped_of m he hm, q _ G H (Grow.refl s) (.bl _)⟩
theorem qv_int (i j : Int) : qv (.int i) (.int j) = decide (i = j) := by
  show (i == j) = decide (i = j)
  rfl
theorem qv_bl (i j : Bool) : qv (.bl i) (.bl j) = decide (i = j) := by
  show (i == j) = decide (i = j)
  rfl
theorem qv_lst (a b : List D) : qv (.lst a) (.lst b) = qvA a b := by
  show PyData.eqv (.list (pyA a)) (.list (pyA b)) = PyData.eqvAll (pyA a) (pyA b)
  rw [PyData.eqv]
theorem qv_tup (a b : List D) : qv (.tup a) (.tup b) = qvA a b := by
  show PyData.eqv (.tuple (pyA a)) (.tuple (pyA b)) = PyData.eqvAll (pyA a) (pyA b)
  rw [PyData.eqv]
theorem qvA_nil : qvA [] [] = true := rfl
theorem qvA_cons (d e : D) (a b : List D) : qvA (d :: a) (e :: b) = (qv d e && qvA a b) := by
  show PyData.eqvAll (py d :: pyA a) (py e :: pyA b) = _
  rw [PyData.eqvAll]
  rfl
theorem qvA_nc (e : D) (b : List D) : qvA [] (e :: b) = false := rfl
theorem qvA_cn (d : D) (a : List D) : qvA (d :: a) [] = false := rfl
theorem qvA_dI : ∀ a b : List Int, qvA (dI a) (dI b) = decide (a = b)
  | [], [] => rfl
  | [], _ :: _ => rfl
  | _ :: _, [] => rfl
  | x :: a, y :: b => by
    show qvA (D.int x :: dI a) (D.int y :: dI b) = _
    rw [qvA_cons, qv_int, qvA_dI a b]
    by_cases h : x = y
    · subst h
      by_cases h2 : a = b
      · subst h2
        simp
      · simp [h2]
    · simp [h]
theorem qv_dI (a b : List Int) : qv (.lst (dI a)) (.lst (dI b)) = decide (a = b) := by rw [qv_lst, qvA_dI]
theorem qv_self {d : D} (n : Nat) (h : deep n d = true) : qv d d = true := PySem.SeqAt.eqv_refl _ (lay_of n h).1
theorem deep_dI (n : Nat) (a : List Int) : deep (n + 1) (.lst (dI a)) = true := by
  show (a.map D.int).all (deep n) = true
  rw [List.all_map]
  exact List.all_eq_true.mpr fun x _ => by
    show deep n (.int x) = true
    cases n <;> rfl

theorem deep_int (n : Nat) (i : Int) : deep n (.int i) = true := by cases n <;> rfl
theorem deep_bl (n : Nat) (i : Bool) : deep n (.bl i) = true := by cases n <;> rfl
theorem r2_eqI {i j : Int} : R2D K (rEqD K) (.int i) (.int j) (.bl (decide (i = j))) := by
  rw [← qv_int]
  exact r2_eq 0 0 rfl rfl
theorem r2_neI {i j : Int} : R2D K (rNeD K) (.int i) (.int j) (.bl (!decide (i = j))) := by
  rw [← qv_int]
  exact r2_ne 0 0 rfl rfl
theorem r2_eqB {i j : Bool} : R2D K (rEqD K) (.bl i) (.bl j) (.bl (decide (i = j))) := by
  rw [← qv_bl]
  exact r2_eq 0 0 rfl rfl
theorem r2_neB {i j : Bool} : R2D K (rNeD K) (.bl i) (.bl j) (.bl (!decide (i = j))) := by
  rw [← qv_bl]
  exact r2_ne 0 0 rfl rfl
theorem r2_eqL {a b : List Int} : R2D K (rEqD K) (.lst (dI a)) (.lst (dI b)) (.bl (decide (a = b))) := by
  rw [← qv_dI]
  exact r2_eq 1 1 (deep_dI 0 a) (deep_dI 0 b)
theorem r2_neL {a b : List Int} : R2D K (rNeD K) (.lst (dI a)) (.lst (dI b)) (.bl (!decide (a = b))) := by
  rw [← qv_dI]
  exact r2_ne 1 1 (deep_dI 0 a) (deep_dI 0 b)
/-- the same on both sides -/
theorem r2_eqS {d : D} (n : Nat) (h : deep n d = true) (hn : n ≤ 64 := by decide) : R2D K (rEqD K) d d (.bl true) := by
  have q := r2_eq (K := K) n n h h hn hn
  rwa [qv_self n h] at q
theorem r2_neS {d : D} (n : Nat) (h : deep n d = true) (hn : n ≤ 64 := by decide) : R2D K (rNeD K) d d (.bl false) := by
  have q := r2_ne (K := K) n n h h hn hn
  rwa [qv_self n h] at q

/-! ## subscripts, slices -/
theorem atI_rep {G : Hp} {vs : List V} {ds : List D} {i : Int} {d : D} (r : RepA K G vs ds) (h : atI ds i = some d) : ∃ v, atI vs i = some v ∧ Rep K G v d := by
  unfold atI at h ⊢
  rw [r.len]
  cases e : ixN ds.length i with
  | none =>
    rw [e] at h
    cases h
  | some j =>
    rw [e] at h
    exact r.at h
theorem r2_ixL {ds : List D} {i : Int} {d : D} (h : atI ds i = some d) : R2D K (rIx K) (.lst ds) (.int i) d := fun x y G H e r1 r2 Q q => by
  cases r2
  cases r1 with
  | lst h1 a1 =>
    obtain ⟨v, h2, h3⟩ := atI_rep a1 h
    exact .inl ⟨_, _, i, v, rfl, rfl, (ls_same e h1).sq, h2, q _ G H (Grow.refl e) h3⟩
theorem r2_ixT {ds : List D} {i : Int} {d : D} (h : atI ds i = some d) : R2D K (rIx K) (.tup ds) (.int i) d := fun x y G H e r1 r2 Q q => by
  cases r2
  cases r1 with
  | tup h1 a1 =>
    obtain ⟨v, h2, h3⟩ := atI_rep a1 h
    exact .inr (.inl ⟨_, _, i, v, rfl, rfl, Or.inl (rd_same e h1), h2, q _ G H (Grow.refl e) h3⟩)
theorem at_nat {α : Type} {xs : List α} {j : Nat} {x : α} (h : xs[j]? = some x) : atI xs (j : Int) = some x := atI_nat h
theorem at_int {α : Type} {xs : List α} {i : Int} {x : α} (h0 : 0 ≤ i) (h : xs[i.toNat]? = some x) : atI xs i = some x := by
  obtain ⟨j, rfl⟩ : ∃ j : Nat, i = (j : Int) := ⟨i.toNat, by omega⟩
  exact atI_nat h
/-- of a list of numbers: the one that stands there -/
theorem r2_ixI {ns : List Int} {i : Int} (h0 : 0 ≤ i) (h : i < ns.length) : R2D K (rIx K) (.lst (dI ns)) (.int i) (.int (ns.getD i.toNat 0)) := r2_ixL (at_int h0 (by
  rw [List.getElem?_map, List.getD_eq_getElem?_getD, List.getElem?_eq_getElem (by omega)]
  rfl))
theorem r2_ixN {ns : List Int} {i : Nat} (h : i < ns.length) : R2D K (rIx K) (.lst (dI ns)) (.int (i : Int)) (.int (ns.getD i 0)) := r2_ixL (atI_nat (by
  rw [List.getElem?_map, List.getD_eq_getElem?_getD, List.getElem?_eq_getElem h]
  rfl))
/-- of a list of anything told by enc -/
theorem r2_ixE {α : Type} {xs : List α} {enc : α → D} {i : Nat} (z : α) (h : i < xs.length) : R2D K (rIx K) (.lst (xs.map enc)) (.int (i : Int)) (enc (xs.getD i z)) := r2_ixL (atI_nat (by
  rw [List.getElem?_map, List.getD_eq_getElem?_getD, List.getElem?_eq_getElem h]
  rfl))
def cutD (ds : List D) (lo hi : Option Int) : List D := (ds.drop (HT.sIx ds.length 0 lo)).take (HT.sIx ds.length ds.length hi - HT.sIx ds.length 0 lo)
theorem de_slice {te : TE} {tl th : TO} {Γ : List B} {ds : List D} {lo hi : Option Int} (h : DE K te Γ (.lst ds)) (h1 : DO K tl Γ lo) (h2 : DO K th Γ hi) : DE K (tSl (rSlL K) te tl th) Γ (.lst (cutD ds lo hi)) := fun σ G H e s Q q =>
  h σ G H e s _ fun v G1 H1 g1 r1 => h1 σ G1 H1 g1.i (s.mono g1.g) _ fun G2 H2 g2 => h2 σ G2 H2 g2.i (s.mono (g1.trans g2).g) _ fun G3 H3 g3 => by
    cases r1 with
    | @lst a vs _ hs b =>
      refine ⟨a, vs, rfl, (ls_same (g1.i.trans (g2.trans g3).h) hs).sq, fun p hp => q _ _ _ (((g1.trans g2).trans g3).trans (Grow.new g3.i hp)) (.lst (LsX.of upd_same) ?_)⟩
      have z : RepA K (upd G3 p (.lst (cutV vs lo hi))) vs ds := (b.mono (g2.trans g3).g).mono (same_new (none_back g3.i hp))
      have zc : RepA K (upd G3 p (.lst (cutV vs lo hi))) (cutV vs lo hi) (cutD ds lo hi) := by
        unfold cutD
        rw [← b.len]
        exact (z.drop _).take _
      exact zc
theorem de_rev {te : TE} {Γ : List B} {ds : List D} (h : DE K te Γ (.lst ds)) : DE K (tRevL K te) Γ (.lst ds.reverse) := fun σ G H e s Q q =>
  h σ G H e s _ fun v G1 H1 g1 r1 => by
    cases r1 with
    | lst a b =>
      exact ⟨_, _, rfl, (ls_same g1.i a).sq, fun p hp => q _ _ _ (g1.trans (Grow.new g1.i hp)) (.lst (LsX.of upd_same) ((b.mono (same_new (none_back g1.i hp))).rev))⟩

/-! ## built-ins -/
def absI (i : Int) : Int := if i < 0 then -i else i
def maxI (i j : Int) : Int := if j > i then j else i
def minI (i j : Int) : Int := if j < i then j else i
theorem rc1 {r : List V → Hp → VK → Prop} {d f : D} (h : ∀ x G H, Same G H → Rep K G x d → ∀ Q : VK, (∀ v G' H', Grow G H G' H' → Rep K G' v f → Q v H') → r [x] H Q) : RCD K r [d] f := fun vs G H e ra Q q => by
  cases ra with
  | cons a b =>
    cases b
    exact h _ G H e a Q q
theorem rc_abs {i : Int} : RCD K (fun xs H Q => ∃ i, xs = [.int i] ∧ Q (.int (if i < 0 then -i else i)) H) [.int i] (.int (absI i)) := rc1 fun x G H e r Q q => by
  cases r
  exact ⟨i, rfl, q _ G H (Grow.refl e) (.int _)⟩
theorem rc_max2 {i j : Int} : RCD K (fun xs H Q => ∃ i j, xs = [.int i, .int j] ∧ Q (.int (if j > i then j else i)) H) [.int i, .int j] (.int (maxI i j)) := fun vs G H e ra Q q => by
  cases ra with
  | cons a b =>
    cases b with
    | cons b c =>
      cases c
      cases a
      cases b
      exact ⟨i, j, rfl, q _ G H (Grow.refl e) (.int _)⟩
theorem rc_min2 {i j : Int} : RCD K (fun xs H Q => ∃ i j, xs = [.int i, .int j] ∧ Q (.int (if j < i then j else i)) H) [.int i, .int j] (.int (minI i j)) := fun vs G H e ra Q q => by
  cases ra with
  | cons a b =>
    cases b with
    | cons b c =>
      cases c
      cases a
      cases b
      exact ⟨i, j, rfl, q _ G H (Grow.refl e) (.int _)⟩
theorem rc_lenL {ds : List D} : RCD K (rLenX K) [.lst ds] (.int (ds.length : Int)) := rc1 fun x G H e r Q q => by
  cases r with
  | lst a b => exact ⟨_, _, rfl, .inl (ls_same e a).sq, q _ G H (Grow.refl e) (by rw [b.len]; exact .int _)⟩
theorem rc_lenT {ds : List D} : RCD K (rLenX K) [.tup ds] (.int (ds.length : Int)) := rc1 fun x G H e r Q q => by
  cases r with
  | tup a b => exact ⟨_, _, rfl, .inr (Or.inl (rd_same e a)), q _ G H (Grow.refl e) (by rw [b.len]; exact .int _)⟩
theorem rc_listL {ds : List D} : RCD K (rListX K) [.lst ds] (.lst ds) := rc1 fun x G H e r Q q => by
  cases r with
  | lst a b => exact ⟨_, _, rfl, .inl (ls_same e a).sq, fun l hl => q _ _ _ (Grow.new e hl) (.lst (LsX.of upd_same) (b.mono (same_new (none_back e hl))))⟩
theorem rc_listT {ds : List D} : RCD K (rListX K) [.tup ds] (.lst ds) := rc1 fun x G H e r Q q => by
  cases r with
  | tup a b => exact ⟨_, _, rfl, .inr (Or.inl (rd_same e a)), fun l hl => q _ _ _ (Grow.new e hl) (.lst (LsX.of upd_same) (b.mono (same_new (none_back e hl))))⟩
theorem rc_sum {ns : List Int} : RCD K (rSum K) [.lst (dI ns)] (.int ns.sum) := rc1 fun x G H e r Q q => by
  cases r with
  | lst a b =>
    cases b.dI_inv
    exact ⟨_, ns, rfl, (ls_same e a).sq, q _ G H (Grow.refl e) (.int _)⟩
theorem rc_all {bs : List Bool} : RCD K (rAll K) [.lst (dB bs)] (.bl (bs.all id)) := rc1 fun x G H e r Q q => by
  cases r with
  | lst a b =>
    cases b.dB_inv
    exact ⟨_, bs, rfl, (ls_same e a).sq, q _ G H (Grow.refl e) (.bl _)⟩
theorem rc_any {bs : List Bool} : RCD K (rAny K) [.lst (dB bs)] (.bl (bs.any id)) := rc1 fun x G H e r Q q => by
  cases r with
  | lst a b =>
    cases b.dB_inv
    exact ⟨_, bs, rfl, (ls_same e a).sq, q _ G H (Grow.refl e) (.bl _)⟩
theorem rc_max {ns : List Int} {m : Int} (hm : m ∈ ns) (hle : ∀ y ∈ ns, y ≤ m) : RCD K (rMax K) [.lst (dI ns)] (.int m) := rc1 fun x G H e r Q q => by
  cases r with
  | lst a b =>
    cases b.dI_inv
    refine ⟨_, ns, rfl, (ls_same e a).sq, List.length_pos_of_mem hm, fun k hk h2 => ?_⟩
    rw [show k = m from Int.le_antisymm (hle k hk) (h2 m hm)]
    exact q _ G H (Grow.refl e) (.int _)
theorem rc_min {ns : List Int} {m : Int} (hm : m ∈ ns) (hle : ∀ y ∈ ns, m ≤ y) : RCD K (rMin K) [.lst (dI ns)] (.int m) := rc1 fun x G H e r Q q => by
  cases r with
  | lst a b =>
    cases b.dI_inv
    refine ⟨_, ns, rfl, (ls_same e a).sq, List.length_pos_of_mem hm, fun k hk h2 => ?_⟩
    rw [show k = m from Int.le_antisymm (h2 m hm) (hle k hk)]
    exact q _ G H (Grow.refl e) (.int _)
theorem sorted_one {a b : List Int} (p : a.Perm b) (ha : a.Pairwise (· ≤ ·)) (hb : b.Pairwise (· ≤ ·)) : a = b := p.eq_of_pairwise (fun x y _ _ h1 h2 => Int.le_antisymm h1 h2) ha hb
theorem rc_sorted {ns ms : List Int} (hp : ms.Perm ns) (hs : ms.Pairwise (· ≤ ·)) : RCD K (rSortedI K) [.lst (dI ns)] (.lst (dI ms)) := rc1 fun x G H e r Q q => by
  cases r with
  | lst a b =>
    cases b.dI_inv
    refine ⟨_, ns, rfl, (ls_same e a).sq, fun ks p h1 h2 np => ?_⟩
    rw [sorted_one (h1.trans hp.symm) h2 hs]
    exact q _ _ _ (Grow.new e np) (.lst (LsX.of upd_same) (RepA.dI_mk _ ms))
/-- isinstance by a built-in class -/
def tyN : D → String
  | .non => "NoneType"
  | .bl _ => "bool"
  | .int _ => "int"
  | .str _ => "str"
  | .lst _ => "list"
  | .tup _ => "tuple"
  | .dct => "dict"
  | _ => ""
theorem ne_int {i : Int} : tyN (.int i) ≠ "" := show ("int" : String) ≠ "" by decide
theorem ne_bl {i : Bool} : tyN (.bl i) ≠ "" := show ("bool" : String) ≠ "" by decide
theorem ne_lst {i : List D} : tyN (.lst i) ≠ "" := show ("list" : String) ≠ "" by decide
theorem ne_tup {i : List D} : tyN (.tup i) ≠ "" := show ("tuple" : String) ≠ "" by decide
theorem ne_str {i : Str} : tyN (.str i) ≠ "" := show ("str" : String) ≠ "" by decide
theorem ne_non : tyN .non ≠ "" := show ("NoneType" : String) ≠ "" by decide
theorem ne_dct : tyN .dct ≠ "" := show ("dict" : String) ≠ "" by decide
theorem rc_isi {d : D} {n : String} {b : Bool} (h : kitB (tyN d) n = some b) (hd : tyN d ≠ "") : RCD K (rIsi K) [d, .ty n] (.bl b) := fun vs G H e ra Q q => by
  cases ra with
  | cons r1 r2 =>
    cases r2 with
    | cons r2 r3 =>
      cases r3
      cases r2
      refine ⟨_, _, .type (tyN d), .type n, b, rfl, .ty n, ?_, kit_ty h, q _ G H (Grow.refl e) (.bl _)⟩
      cases r1 with
      | non => exact .base .non
      | bl x => exact .base (.bl x)
      | int i => exact .base (.int i)
      | str z => exact .base (.str z)
      | lst a _ =>
        rcases ls_same e a with (a | ⟨o, a⟩) | ⟨its, n, a, _⟩
        · exact .base (.lst a)
        · exact .base (.frz a)
        · exact .kList a rfl
      | tup a _ =>
        rcases rd_same e a with a | ⟨o, a⟩
        · exact .base (.tup a)
        · exact .fTuple a
      | dct a => exact .base (.dK (e _ _ a))
      | ty _ => exact absurd rfl hd
      | cls _ => exact absurd rfl hd
      | op _ => exact absurd rfl hd
      | ins _ _ => exact absurd rfl hd
theorem rc_isF {d : D} {n : String} (f : D → Bool) (h : ∀ d, tyN d ≠ "" → kitB (tyN d) n = some (f d)) (hd : tyN d ≠ "") : RCD K (rIsi K) [d, .ty n] (.bl (f d)) := rc_isi (h d hd) hd
def isInt : D → Bool
  | .int _ | .bl _ => true
  | _ => false
def isBool : D → Bool
  | .bl _ => true
  | _ => false
def isList : D → Bool
  | .lst _ => true
  | _ => false
def isTup : D → Bool
  | .tup _ => true
  | _ => false
theorem k_ii : kitB "int" "int" = some true := by decide +kernel
theorem k_ib : kitB "int" "bool" = some false := by decide +kernel
theorem k_il : kitB "int" "list" = some false := by decide +kernel
theorem k_it : kitB "int" "tuple" = some false := by decide +kernel
theorem k_bi : kitB "bool" "int" = some true := by decide +kernel
theorem k_bb : kitB "bool" "bool" = some true := by decide +kernel
theorem k_bl : kitB "bool" "list" = some false := by decide +kernel
theorem k_bt : kitB "bool" "tuple" = some false := by decide +kernel
theorem k_li : kitB "list" "int" = some false := by decide +kernel
theorem k_lb : kitB "list" "bool" = some false := by decide +kernel
theorem k_ll : kitB "list" "list" = some true := by decide +kernel
theorem k_lt : kitB "list" "tuple" = some false := by decide +kernel
theorem k_ti : kitB "tuple" "int" = some false := by decide +kernel
theorem k_tb : kitB "tuple" "bool" = some false := by decide +kernel
theorem k_tl : kitB "tuple" "list" = some false := by decide +kernel
theorem k_tt : kitB "tuple" "tuple" = some true := by decide +kernel
theorem k_si : kitB "str" "int" = some false := by decide +kernel
theorem k_sb : kitB "str" "bool" = some false := by decide +kernel
theorem k_sl : kitB "str" "list" = some false := by decide +kernel
theorem k_st : kitB "str" "tuple" = some false := by decide +kernel
theorem k_ni : kitB "NoneType" "int" = some false := by decide +kernel
theorem k_nb : kitB "NoneType" "bool" = some false := by decide +kernel
theorem k_nl : kitB "NoneType" "list" = some false := by decide +kernel
theorem k_nt : kitB "NoneType" "tuple" = some false := by decide +kernel
theorem k_di : kitB "dict" "int" = some false := by decide +kernel
theorem k_db : kitB "dict" "bool" = some false := by decide +kernel
theorem k_dl : kitB "dict" "list" = some false := by decide +kernel
theorem k_dt : kitB "dict" "tuple" = some false := by decide +kernel
theorem rc_int {d : D} (hd : tyN d ≠ "") : RCD K (rIsi K) [d, .ty "int"] (.bl (isInt d)) := rc_isF isInt (fun d h => by
  cases d with
  | non => exact k_ni
  | bl _ => exact k_bi
  | int _ => exact k_ii
  | str _ => exact k_si
  | lst _ => exact k_li
  | tup _ => exact k_ti
  | dct => exact k_di
  | ins _ _ => exact absurd rfl h
  | ty _ => exact absurd rfl h
  | cls _ => exact absurd rfl h
  | op _ => exact absurd rfl h) hd
theorem rc_bool {d : D} (hd : tyN d ≠ "") : RCD K (rIsi K) [d, .ty "bool"] (.bl (isBool d)) := rc_isF isBool (fun d h => by
  cases d with
  | non => exact k_nb
  | bl _ => exact k_bb
  | int _ => exact k_ib
  | str _ => exact k_sb
  | lst _ => exact k_lb
  | tup _ => exact k_tb
  | dct => exact k_db
  | ins _ _ => exact absurd rfl h
  | ty _ => exact absurd rfl h
  | cls _ => exact absurd rfl h
  | op _ => exact absurd rfl h) hd
theorem rc_list {d : D} (hd : tyN d ≠ "") : RCD K (rIsi K) [d, .ty "list"] (.bl (isList d)) := rc_isF isList (fun d h => by
  cases d with
  | non => exact k_nl
  | bl _ => exact k_bl
  | int _ => exact k_il
  | str _ => exact k_sl
  | lst _ => exact k_ll
  | tup _ => exact k_tl
  | dct => exact k_dl
  | ins _ _ => exact absurd rfl h
  | ty _ => exact absurd rfl h
  | cls _ => exact absurd rfl h
  | op _ => exact absurd rfl h) hd
theorem rc_tuple {d : D} (hd : tyN d ≠ "") : RCD K (rIsi K) [d, .ty "tuple"] (.bl (isTup d)) := rc_isF isTup (fun d h => by
  cases d with
  | non => exact k_nt
  | bl _ => exact k_bt
  | int _ => exact k_it
  | str _ => exact k_st
  | lst _ => exact k_lt
  | tup _ => exact k_tt
  | dct => exact k_dt
  | ins _ _ => exact absurd rfl h
  | ty _ => exact absurd rfl h
  | cls _ => exact absurd rfl h
  | op _ => exact absurd rfl h) hd
theorem de_ty {n : String} {Γ : List B} : DE K (tC (.ty n)) Γ (.ty n) := de_c fun _ => .ty n
end
/-! ## sizes -/
/-- at most n bits -/
structure Fit (n : Nat) (i : Int) : Prop where
  lt : i.natAbs < 2 ^ n
theorem Fit.mono {m n : Nat} {i : Int} (h : Fit m i) (e : m ≤ n) : Fit n i := ⟨Nat.lt_of_lt_of_le h.lt (Nat.pow_le_pow_right (by decide) e)⟩
theorem Fit.log {n : Nat} {i : Int} (h : Fit n i) : i.natAbs.log2 ≤ n := by
  by_cases h0 : i.natAbs = 0
  · rw [h0]
    exact Nat.zero_le _
  · exact Nat.le_of_lt ((Nat.log2_lt h0).mpr h.lt)
theorem Fit.mulok {m n : Nat} {i j : Int} (h : Fit m i) (h2 : Fit n j) (e : m + n < 100000000) : CMulX i j := .inr (by
  have a := h.log
  have b := h2.log
  omega)
theorem Fit.mul {m n : Nat} {i j : Int} (h : Fit m i) (h2 : Fit n j) : Fit (m + n) (i * j) := ⟨by
  rw [Int.natAbs_mul, Nat.pow_add]
  exact Nat.mul_lt_mul'' h.lt h2.lt⟩
theorem Fit.add {m : Nat} {i j : Int} (h : Fit m i) (h2 : Fit m j) : Fit (m + 1) (i + j) := ⟨by
  have := Int.natAbs_add_le i j
  have := h.lt
  have := h2.lt
  rw [Nat.pow_succ]
  omega⟩
theorem Fit.neg {m : Nat} {i : Int} (h : Fit m i) : Fit m (-i) := ⟨by
  rw [Int.natAbs_neg]
  exact h.lt⟩
theorem Fit.sub {m : Nat} {i j : Int} (h : Fit m i) (h2 : Fit m j) : Fit (m + 1) (i - j) := by
  rw [Int.sub_eq_add_neg]
  exact h.add h2.neg
theorem Fit.le {m : Nat} {i j : Int} (h : Fit m i) (e : j.natAbs ≤ i.natAbs) : Fit m j := ⟨Nat.lt_of_le_of_lt e h.lt⟩
theorem Fit.abs {m : Nat} {i : Int} (h : Fit m i) : Fit m (absI i) := h.le (by unfold absI; split <;> omega)
theorem Fit.small {i : Int} (n : Nat) (h : i.natAbs < 2 ^ n) : Fit n i := ⟨h⟩
theorem Fit.divok {n : Nat} {i j : Int} (h0 : 0 < j) (h : Fit n j) (e : n < 9000) : CDivW i j := ⟨h0, by have := h.log; omega⟩
theorem Fit.div {m : Nat} {i j : Int} (h : Fit m i) (h0 : 0 < j) : Fit m (i / j) := h.le (by
  rcases Int.lt_or_le i 0 with hi | hi
  · have a := Int.mul_ediv_add_emod i j
    have b := Int.emod_nonneg i (show j ≠ 0 by omega)
    have c := Int.emod_lt_of_pos i h0
    have h1 : i / j ≤ -1 := by
      rcases Int.lt_or_le (i / j) 0 with z | z
      · omega
      · have := Int.mul_nonneg (show (0 : Int) ≤ j by omega) z
        omega
    have d : (j - 1) * (i / j) ≤ (j - 1) * (-1) := Int.mul_le_mul_of_nonneg_left h1 (by omega)
    rw [Int.sub_mul, Int.one_mul] at d
    omega
  · have h1 : 0 ≤ i / j := Int.ediv_nonneg hi (by omega)
    have h2 : i / j ≤ i := Int.ediv_le_self j hi
    omega)
end DL

/-! DM: max(xs, default=d). -/
namespace DL
open PySem PySem.Spec PyProof.Rows
section
variable {prog : Program} {w : World} {A : Around} {R : Result → Shared → Prop} {I : Addr} {fp wr : List Addr} {n : Nat} {P : Nat → Value → Prop} {St : Nat → Heap → Prop}
theorem max_turns (kw : List (Str × Value)) (W : PySem.Walks prog w A.in1 I fp wr n P St) (bt : Nat → Nat → Bool) (better : PySem.CmpOf prog w A.in1 .Gt P bt) (S : Addr) (out : S ∉ fp) :
    ∀ (k j : Nat) (s : Shared) (best : Value) (c : Nat), n - (j + 1) = k → j + 1 ≤ n → St (j + 1) s.heap → P (PySem.argBest bt j) best →
    s.heap.get? S = some { cls := .type "list", dict := none, data := .seq #[best, best] c, slots := #[] } →
    (∀ v h' tk, P (PySem.argBest bt (n - 1)) v → (∀ b o, b ∉ wr → b ≠ S → s.heap.get? b = some o → h'.get? b = some o) → R (.ok (.ret v)) { s with heap := h', toks := tk }) →
    codeAny (model prog w) A (.builtin "max.loop" ⟨[.ref I, .none, .ref S], kw⟩) R s := by
  have outw : S ∉ wr := fun z => out (W.sub _ z)
  have nm : (toString "max" ++ toString ".loop" : String) = "max.loop" := by decide
  intro k
  induction k with
  | zero =>
    intro j s best c hk hj st hP hS hR
    have last : j + 1 = n := by omega
    refine codeAny_builtin PySem.F.entry_max_loop ?_
    rw [Around.under_plainId PySem.F.plain_max_loop _]
    show wpAny _ A.in1 (seqItems? (.ref S) >>= _) _ _ s
    refine wpAny_bind (wpAny_seqItems hS rfl ?_)
    show wpAny _ A.in1 (tryCatch (pyNext (.ref I)) _ >>= _) _ _ s
    refine wpAny_bind (wpAny_tryCatch (W.done s _ _ (last ▸ st) fun h' tk kp => ?_))
    have hS2 := kp S _ outw hS
    show wpAny _ A.in1 (updateSeq S (fun _ => #[]) >>= _) _ _ _
    refine wpAny_bind (wpAny_updateSeq hS2 rfl (wpAny_bind (wpAny_letGo (wpAny_pure ?_))))
    exact hR best _ tk (by rw [← last]; exact hP) fun b o h1 h2 e => (Heap.get?_update_other _ _ (Ne.symm h2)).trans (kp b o h1 e)
  | succ k ih =>
    intro j s best c hk hj st hP hS hR
    have more : j + 1 < n := by omega
    refine codeAny_builtin PySem.F.entry_max_loop ?_
    rw [Around.under_plainId PySem.F.plain_max_loop _]
    show wpAny _ A.in1 (seqItems? (.ref S) >>= _) _ _ s
    refine wpAny_bind (wpAny_seqItems hS rfl ?_)
    show wpAny _ A.in1 (tryCatch (pyNext (.ref I)) _ >>= _) _ _ s
    refine wpAny_bind (wpAny_tryCatch (W.item (j + 1) s _ _ more st fun v h' tk hv st' kp => ?_))
    have hS2 := kp S _ outw hS
    show wpAny _ A.in1 (tryCatch (holding [v, v] (richCompare .Gt v best >>= _)) _ >>= _) _ _ _
    refine wpAny_bind (wpAny_tryCatch (wpAny_holding (wpAny_bind (better (j + 1) (PySem.argBest bt j) v best _ _ _ hv hP ?_))))
    refine wpAny_bind (wpAny_holding (wpAny_truthy_bool (wpAny_bind (wpAny_letGo (wpAny_pure ?_)))))
    cases hb : bt (j + 1) (PySem.argBest bt j) with
    | true =>
      simp only [if_true]
      refine wpAny_bind (wpAny_updateSeq hS2 rfl (wpAny_bind (wpAny_letGo ?_)))
      rw [nm]
      refine wpAny_pure ⟨plainId_quiet PySem.F.plain_max_loop _, ih (j + 1) _ v _ (by omega) more (W.frame _ _ _ st' fun b hbf o e => ?_) (by simp only [PySem.argBest, hb, if_true]; exact hv) (Heap.get?_update_self _ hS2 rfl)
        fun v' h2 t2 hP2 k2 => hR v' h2 t2 hP2 fun b o h3 h4 e => k2 b o h3 h4 ((Heap.get?_update_other _ _ (Ne.symm h4)).trans (kp b o h3 e))⟩
      exact (Heap.get?_update_other _ _ (fun z : S = b => out (by rw [z]; exact hbf))).trans e
    | false =>
      simp only [Bool.false_eq_true, if_false]
      refine wpAny_bind (wpAny_letGo ?_)
      rw [nm]
      exact wpAny_pure ⟨plainId_quiet PySem.F.plain_max_loop _, ih (j + 1) _ best c (by omega) more st' (by simp only [PySem.argBest, hb, Bool.false_eq_true, if_false]; exact hP) hS2
        fun v' h2 t2 hP2 k2 => hR v' h2 t2 hP2 fun b o h3 h4 e => k2 b o h3 h4 (kp b o h3 e)⟩
end
section
variable {prog : Program} {w : World} {A : Around} {E : Value → Shared → Prop} {s : Shared}
theorem args_max_default (a v : Value) : argsOk "max" ⟨[a], [(Str.ofString "default", v)]⟩ := by unfold argsOk; kernel_rfl
theorem max_default {l : Addr} {its : List Value} {ns : List Int} {d : Value} {Q : Value → Shared → Prop} (hh : A.handled = none) (hl : s.heap.IsList l its.toArray) (hi : IntsAre its ns)
    (h : ∀ h' tk, (∀ b o, s.heap.get? b = some o → h'.get? b = some o) → (ns = [] → Q d { s with heap := h', toks := tk }) ∧ ∀ M t, M ∈ ns → (∀ a, a ∈ ns → a ≤ M) → Q (.int M t) { s with heap := h', toks := tk }) :
    wpAny (model prog w) A (call (.builtin "max") [.ref l] [(Str.ofString "default", d)]) Q E s := by
  have nm : (toString "max" ++ toString ".loop" : String) = "max.loop" := by decide
  obtain ⟨xs, e⟩ := hi.allInts.items
  have hn : numsOf (intItems xs).toList = ns := by rw [← e]; exact hi.numsOf
  rw [nums_intItems] at hn
  subst hn
  rw [e] at hl
  refine PyProof.Rows.kmk_tree PySem.F.kind_max PySem.F.plain_max PySem.F.entry_max (args_max_default _ _) ?_
  show wpAny _ A.in1 (Builtin.Builtins.bindParams "max" ["key", "default"] 0 ⟨[], [(Str.ofString "default", d)]⟩ >>= _) _ _ s
  refine wpAny_bind (wpAny_of_eq (show Builtin.Builtins.bindParams "max" ["key", "default"] 0 ⟨[], [(Str.ofString "default", d)]⟩ = pure [none, some d] from rfl) ?_)
  refine wpAny_bind (wpAny_pure ?_)
  refine wpAny_bind (iter_intList hl fun s₂ e st hfp hlI => ?_)
  subst e
  have W := PySem.Walks.list (prog := prog) (w := w) (A := A.in1) hh _ l hlI (intItems xs)
  refine wpAny_bind (wpAny_newObj_type ?_)
  rw [nm]
  refine wpAny_pure ⟨plainId_quiet PySem.F.plain_max_loop _, ?_⟩
  generalize hs2 : ({ s with heap := s.heap.push { cls := .type "list_iterator", data := .fields #[.ref l, .int 0 0] } } : Shared) = s2 at st hfp W ⊢
  have kept2 : ∀ b o, s.heap.get? b = some o → s2.heap.get? b = some o := fun b o e => by
    rw [← hs2]
    exact Heap.get?_push_of_some _ e
  have outs : s2.heap.objs.size ∉ [s.heap.objs.size, l] := fun hm => Nat.lt_irrefl _ (hfp _ hm)
  have wrs : ∀ b o, s.heap.get? b = some o → b ∉ [s.heap.objs.size] := fun b o e hm => by
    rw [List.mem_singleton.mp hm] at e
    exact absurd (Heap.lt_size e) (Nat.lt_irrefl _)
  have gS := Heap.get?_push_size (h := s2.heap) (o := { cls := .type "list", data := .seq ([] : List Value).toArray }) rfl
  have st2 := W.frame 0 _ (s2.heap.push { cls := .type "list", data := .seq ([] : List Value).toArray }) st fun b _ o e => Heap.get?_push_of_some _ e
  refine codeAny_builtin PySem.F.entry_max_loop ?_
  rw [Around.under_plainId PySem.F.plain_max_loop _]
  show wpAny _ A.in1 (seqItems? (.ref _) >>= _) _ _ _
  refine wpAny_bind (wpAny_seqItems gS rfl ?_)
  show wpAny _ A.in1 (tryCatch (pyNext (.ref _)) _ >>= _) _ _ _
  by_cases hz : (intItems xs).size = 0
  · refine wpAny_bind (wpAny_tryCatch (W.done _ _ _ (by rw [hz]; exact st2) fun h' tk kp => ?_))
    show wpAny _ A.in1 (do rule "max.default"; ret d) _ _ _
    refine wpAny_bind (wpAny_rule (wpAny_pure ?_))
    have hx : xs.toList.map (·.1) = [] := by
      have hz2 : xs.size = 0 := by simpa [intItems] using hz
      have : xs.toList = [] := by
        apply List.eq_nil_of_length_eq_zero
        rw [Array.length_toList]
        exact hz2
      rw [this]
      rfl
    rw [← hs2]
    exact (h h' tk fun b o e => kp b o (wrs b o e) (Heap.get?_push_of_some _ (kept2 b o e))).1 hx
  · refine wpAny_bind (wpAny_tryCatch (W.item 0 _ _ _ (Nat.pos_of_ne_zero hz) st2 fun v h' tk hv st3 kp => ?_))
    have gS2 := kp _ _ (fun hm => outs (W.sub _ hm)) gS
    show wpAny _ A.in1 (updateSeq s2.heap.objs.size (fun _ => #[v, v]) >>= _) _ _ _
    refine wpAny_bind (wpAny_updateSeq gS2 rfl ?_)
    rw [nm]
    refine wpAny_pure ⟨plainId_quiet PySem.F.plain_max_loop _, max_turns _ W _ (CmpOf.ints_gt (numAt xs) (fun _ _ => intItems_at)) _ outs _ 0 _ v _ rfl (Nat.pos_of_ne_zero hz) (W.frame _ _ _ st3 fun b hb o e => ?_) hv (Heap.get?_update_self _ gS2 rfl) fun v' h2 t2 hv2 k2 => ?_⟩
    · exact (Heap.get?_update_other _ _ (fun z => outs (by rw [z]; exact hb))).trans e
    · obtain ⟨t, rfl⟩ := intItems_at hv2
      obtain ⟨h1, h3⟩ := argBest_gt (numAt xs) ((intItems xs).size - 1)
      have hsz : (intItems xs).size = xs.size := by simp [intItems]
      have kept : ∀ b o, s.heap.get? b = some o → h2.get? b = some o := fun b o e =>
        k2 b o (wrs b o e) (fun z => by
          have q := Heap.lt_size (kept2 b o e)
          rw [z] at q
          exact Nat.lt_irrefl _ q) ((Heap.get?_update_other _ _ (fun z => by
          have q := Heap.lt_size (kept2 b o e)
          rw [← z] at q
          exact Nat.lt_irrefl _ q)).trans (kp b o (wrs b o e) (Heap.get?_push_of_some _ (kept2 b o e))))
      rw [← hs2]
      refine (h h2 t2 kept).2 _ t ?_ fun a ha => ?_
      · rw [numAt_eq]
        exact PySem.getD_mem (by rw [List.length_map, Array.length_toList]; omega)
      · obtain ⟨j, hj, rfl⟩ := mem_getD ha
        rw [List.length_map, Array.length_toList] at hj
        rw [← numAt_eq]
        exact h3 j (by omega)
end
end DL
namespace DL
open PySem PySem.Spec PyProof.Rows L2
variable {K : PySem.W.Frag}
/-- max(xs, default=d) -/
def rMaxD (K : PySem.W.Frag) : List V → List V → Hp → VK → Prop := fun vs zs H Q => ∃ (a : Addr) (ns : List Int) (d : Int), vs = [V.ref a] ∧ zs = [V.int d] ∧ SqL K H a (ns.map V.int) ∧
  ∀ m, (ns = [] → m = d) → (ns ≠ [] → m ∈ ns ∧ ∀ y ∈ ns, y ≤ m) → Q (.int m) H
theorem cr_maxD {X : Cx} (hc : X.calm = true) : CallRK X (.builtin "max") [Str.ofString "default"] (rMaxD X.K) := by
  intro pins s σ H vs zs us ws Q I r rz h
  obtain ⟨a, ns, d, rfl, rfl, hs, q⟩ := h
  obtain rfl := Vals.ref1 r
  obtain ⟨w1, rfl, e1⟩ := vals1 rz
  obtain ⟨t, rfl⟩ : ∃ t, w1 = Value.int d t := e1
  obtain ⟨its, rv, hl, _⟩ := I.list hs
  refine max_default (I.ok.hd hc) hl.isList rv.ints fun h' tk hk => ⟨fun e => ?_, fun M t' h1 h2 => ?_⟩
  · exact ⟨.int d, H, I.kept hk, ⟨t, rfl⟩, q d (fun _ => rfl) fun z => absurd e z⟩
  · exact ⟨.int M, H, I.kept hk, ⟨t', rfl⟩, q M (fun e => by rw [e] at h1; cases h1) fun _ => ⟨h1, h2⟩⟩
theorem maxDK {X : Cx} (K : PySem.W.Frag) (hc : X.calm = true) (h : X.K = K := by rfl) : CallRK X (.builtin "max") [Str.ofString "default"] (rMaxD K) := h ▸ cr_maxD hc
def maxOr (d : Int) (ns : List Int) : Int := (ns.max?).getD d
theorem maxOr_nil (d : Int) : maxOr d [] = d := rfl
theorem maxOr_mem {d : Int} {ns : List Int} (h : ns ≠ []) : maxOr d ns ∈ ns ∧ ∀ y ∈ ns, y ≤ maxOr d ns := by
  cases e : ns.max? with
  | none => exact absurd (List.max?_eq_none_iff.mp e) h
  | some m =>
    have q := List.max?_eq_some_iff.mp e
    unfold maxOr
    rw [e]
    exact ⟨q.1, fun y hy => q.2 y hy⟩
theorem maxOr_eq {d m : Int} {ns : List Int} (h1 : ns = [] → m = d) (h2 : ns ≠ [] → m ∈ ns ∧ ∀ y ∈ ns, y ≤ m) : m = maxOr d ns := by
  cases ns with
  | nil => exact h1 rfl
  | cons x r =>
    have a := h2 (List.cons_ne_nil _ _)
    have b := maxOr_mem (d := d) (List.cons_ne_nil x r)
    exact Int.le_antisymm (b.2 m a.1) (a.2 _ b.1)
theorem de_maxD {t tk : TA} {Γ : List B} {ns : List Int} {d : Int} (h : DAr K t Γ [.lst (dI ns)]) (hk : DAr K tk Γ [.int d]) : DE K (tCKw (rMaxD K) t tk) Γ (.int (maxOr d ns)) := fun σ G H e s Q q =>
  h σ G H e s _ fun vs G1 H1 g1 r1 => hk σ G1 H1 g1.i (s.mono g1.g) _ fun zs G2 H2 g2 r2 => by
    cases r1 with
    | cons a b =>
      cases b
      cases r2 with
      | cons c b =>
        cases b
        cases c
        cases a with
        | lst a b =>
          cases b.dI_inv
          refine ⟨_, ns, d, rfl, rfl, (ls_same (g1.i.trans g2.h) a).sq, fun m h1 h2 => ?_⟩
          rw [maxOr_eq h1 h2]
          exact q _ G2 H2 (g1.trans g2) (.int _)
end DL

/-! DQ: objects, chains of three, extend, in, isinstance of one's own classes. -/
namespace DL
open PySem PySem.Spec PyProof.Rows L2
variable {K : PySem.W.Frag}

/-! ## a op b op c op d -/
def tChain3 (r1 r2 r3 : R2) (ta tb tc td : TE) : TE := fun σ H Q => ta σ H fun x H1 => tb σ H1 fun y H2 => r1 x y H2 fun z H3 => ∃ k, z = .bl k ∧
  (if k = true then tc σ H3 fun w H4 => r2 y w H4 fun z2 H5 => ∃ k2, z2 = .bl k2 ∧ (if k2 = true then td σ H5 fun u H6 => r3 w u H6 Q else Q (.bl false) H5) else Q (.bl false) H3)
section
variable {X : Cx} {a b c d : Expr} {ta tb tc td : TE} {o1 o2 o3 : CmpOp} {r1 r2 r3 : R2} {pos : Pos}
theorem pe_chain3 (h1 : OpR X (compareOp o1) r1) (h2 : OpR X (compareOp o2) r2) (h3 : OpR X (compareOp o3) r3) (ha : PE X a ta) (hb : PE X b tb) (hc : PE X c tc) (hd : PE X d td)
    (hm : lastMarks [o1, o2, o3] [b, c, d] = false := by with_unfolding_all rfl) : PE X (.Compare a [o1, o2, o3] [b, c, d] pos) (tChain3 r1 r2 r3 ta tb tc td) := by
  refine ⟨fun pins s σ H Q I h => ?_⟩
  refine Compare_chain (thn (ha.run pins s σ H _ I h) fun v s1 ⟨x, H1, I1, e1, q1⟩ => ?_) hm
  refine chain_link (thn (hb.run pins s1 σ H1 _ I1 q1) fun u s2 ⟨y, H2, I2, e2, q2⟩ => ?_)
  refine thn (h1 pins s2 σ H2 x y v u _ I2 e1 e2 q2) fun g s3 ⟨z, H3, I3, e3, k, e, q3⟩ => ?_
  subst e
  cases e3
  refine wpAny_truthy_bool ?_
  cases k with
  | false => exact ite_ff ⟨.bl false, H3, I3, rfl, q3⟩
  | true =>
    refine ite_tt (chain_link (thn (hc.run pins s3 σ H3 _ I3 q3) fun w s4 ⟨y2, H4, I4, e4, q4⟩ => ?_))
    refine thn (h2 pins s4 σ H4 y y2 u w _ I4 e2 e4 q4) fun g s5 ⟨z, H5, I5, e5, k2, e, q5⟩ => ?_
    subst e
    cases e5
    refine wpAny_truthy_bool ?_
    cases k2 with
    | false => exact ite_ff ⟨.bl false, H5, I5, rfl, q5⟩
    | true => exact ite_tt (chain_last (thn (hd.run pins s5 σ H5 _ I5 q5) fun w2 s6 ⟨y3, H6, I6, e6, q6⟩ => h3 pins s6 σ H6 y2 y3 w w2 Q I6 e4 e6 q6))
theorem pt_chain3 (h1 : OpR X (compareOp o1) r1) (h2 : OpR X (compareOp o2) r2) (h3 : OpR X (compareOp o3) r3) (ha : PE X a ta) (hb : PE X b tb) (hc : PE X c tc) (hd : PE X d td)
    (hm : lastMarks [o1, o2, o3] [b, c, d] = false := by with_unfolding_all rfl) : PT X (.Compare a [o1, o2, o3] [b, c, d] pos) (tTest (tChain3 r1 r2 r3 ta tb tc td)) := by
  refine ⟨fun pins s σ H Q I h => ?_⟩
  refine isTrue_chain (thn (ha.run pins s σ H _ I h) fun v s1 ⟨x, H1, I1, e1, q1⟩ => ?_) hm
  refine test_link (thn (hb.run pins s1 σ H1 _ I1 q1) fun u s2 ⟨y, H2, I2, e2, q2⟩ => ?_)
  refine thn (h1 pins s2 σ H2 x y v u _ I2 e1 e2 q2) fun g s3 ⟨z, H3, I3, e3, k, e, q3⟩ => ?_
  subst e
  cases e3
  refine wpAny_truthy_bool ?_
  cases k with
  | false =>
    obtain ⟨k', e', q'⟩ := q3
    cases e'
    exact ite_ff ⟨H3, I3, q'⟩
  | true =>
    refine ite_tt (test_link (thn (hc.run pins s3 σ H3 _ I3 q3) fun w s4 ⟨y2, H4, I4, e4, q4⟩ => ?_))
    refine thn (h2 pins s4 σ H4 y y2 u w _ I4 e2 e4 q4) fun g s5 ⟨z, H5, I5, e5, k2, e, q5⟩ => ?_
    subst e
    cases e5
    refine wpAny_truthy_bool ?_
    cases k2 with
    | false =>
      obtain ⟨k', e', q'⟩ := q5
      cases e'
      exact ite_ff ⟨H5, I5, q'⟩
    | true =>
      refine ite_tt (test_last (thn (hd.run pins s5 σ H5 _ I5 q5) fun w2 s6 ⟨y3, H6, I6, e6, q6⟩ => ?_))
      refine thn (h3 pins s6 σ H6 y2 y3 w w2 _ I6 e4 e6 q6) fun g s7 ⟨z, H7, I7, e7, k3, e, q7⟩ => ?_
      subst e
      cases e7
      exact wpAny_truthy_bool ⟨H7, I7, q7⟩
/-- l.extend(b) -/
theorem mt_extendX : MtR X "list.extend" (rExtX X.K) := by
  intro pins s σ H x vs v us Q I rx rv h
  obtain ⟨l, b, xs, zs, rfl, rfl, hH, hB, hz, q⟩ := h
  cases rx
  obtain ⟨u, rfl, ru⟩ := rv.one
  cases ru
  obtain ⟨z, its, n, r, hl, e⟩ := I.lstM hH
  obtain ⟨z2, its2, n2, r2, hl2, e2⟩ := lst_get I hB
  have hs : its.toArray.size + its2.toArray.size ≤ sizeLine := by
    rw [List.size_toArray, List.size_toArray, ← hl, ← hl2]
    exact hz
  have hno : ¬ (!its.toArray.isEmpty && Builtin.List.listTooLong (its.toArray.size + its2.toArray.size)) = true := by
    rw [notLongL hs, Bool.and_false]
    exact Bool.false_ne_true
  refine call_meets PySem.F.slot_list_extend ⟨_, e, rfl⟩ PySem.F.entry_list_extend (PySem.F.args_list_extend_2 _ _) (AutoSeq1.list_extend_list_list_0 l its.toArray n b its2.toArray n2 hno (by rw [List.size_toArray]; omega) (by omega)) ⟨e, e2, ?_⟩
  exact ⟨.non, _, I.lset (its' := its ++ its2) hH e (by simp) (r.append r2) (by rw [List.length_append]; exact hz), rfl, q⟩
theorem extK (K : PySem.W.Frag) (h : X.K = K := by rfl) : MtR X "list.extend" (rExtX K) := h ▸ mt_extendX
theorem ps_fldK (K : PySem.W.Frag) {o v : Expr} {f : Str} {p p2 : Pos} (ha : PE X o ta) (hv : PE X v tb) (hs : swapsWith v (some (.Attribute o f p2)) p.line X.env = pure false) (h : X.K = K := by rfl) : PS X (.Assign [.Attribute o f p2] v p) (sFld K ta tb f) := h ▸ ps_fld ha hv hs
/-- two readings of one expression -/
theorem pe_either {e : Expr} (h1 : PE X e ta) (h2 : PE X e tb) : PE X e (fun σ H Q => ta σ H Q ∨ tb σ H Q) := ⟨fun pins s σ H Q I h => by
  rcases h with h | h
  · exact h1.run pins s σ H Q I h
  · exact h2.run pins s σ H Q I h⟩
end
section
variable {Γ : List B} {ta tb tc td te : TE} {a b c d : D}
theorem de_either1 (h : DE K ta Γ d) : DE K (fun σ H Q => ta σ H Q ∨ tb σ H Q) Γ d := fun σ G H e s Q q => .inl (h σ G H e s Q q)
theorem de_either2 (h : DE K tb Γ d) : DE K (fun σ H Q => ta σ H Q ∨ tb σ H Q) Γ d := fun σ G H e s Q q => .inr (h σ G H e s Q q)
theorem de_chain3 {r r' r2 : R2} {x y z : Bool} (ha : DE K ta Γ a) (hb : DE K tb Γ b) (hr : R2D K r a b (.bl x)) (hc : x = true → DE K tc Γ c) (hr' : x = true → R2D K r' b c (.bl y)) (hd : x = true → y = true → DE K td Γ d) (hr2 : x = true → y = true → R2D K r2 c d (.bl z)) :
    DE K (tChain3 r r' r2 ta tb tc td) Γ (.bl (x && (y && z))) := fun σ G H e s Q q =>
  ha σ G H e s _ fun v G1 H1 g1 r1 => hb σ G1 H1 g1.i (s.mono g1.g) _ fun w G2 H2 g2 rw2 =>
    hr v w G2 H2 g2.i (r1.mono g2.g) rw2 _ fun o G3 H3 g3 r3 => by
      cases r3
      have g13 := (g1.trans g2).trans g3
      refine ⟨x, rfl, ?_⟩
      cases x with
      | false => exact q _ G3 H3 g13 (.bl false)
      | true =>
        refine hc rfl σ G3 H3 g3.i (s.mono g13.g) _ fun u G4 H4 g4 r4 => hr' rfl w u G4 H4 g4.i (rw2.mono (g3.trans g4).g) r4 _ fun o G5 H5 g5 r5 => ?_
        cases r5
        have g15 := (g13.trans g4).trans g5
        refine ⟨y, rfl, ?_⟩
        cases y with
        | false => exact q _ G5 H5 g15 (.bl false)
        | true =>
          exact hd rfl rfl σ G5 H5 g5.i (s.mono g15.g) _ fun u2 G6 H6 g6 r6 => hr2 rfl rfl u u2 G6 H6 g6.i (r4.mono (g5.trans g6).g) r6 Q fun v' G7 H7 g7 r7 => q v' G7 H7 ((g15.trans g6).trans g7) r7

/-! ## x in [..], whole numbers -/
theorem rep_int {G : Hp} {v : V} {i : Int} (h : Rep K G v (.int i)) : v = .int i := by
  cases h
  rfl
def inI (x : Int) (ns : List Int) : Bool := ns.any fun n => n == x
theorem inV_int (x : Int) : ∀ ns : List Int, L2.inV (.int x) (ns.map V.int) = inI x ns
  | [] => rfl
  | n :: r => by
    show (L2.eqV (.int n) (.int x) || L2.inV (.int x) (r.map V.int)) = (n == x || inI x r)
    rw [inV_int x r]
    rfl
theorem flats_int : ∀ ns : List Int, (ns.map V.int).all L2.flatV = true
  | [] => rfl
  | n :: r => by
    show (true && (r.map V.int).all L2.flatV) = true
    rw [flats_int r]
    rfl
theorem r2_in {x : Int} {ns : List Int} : R2D K (rIn K false) (.int x) (.lst (dI ns)) (.bl (inI x ns)) := fun u v G H e r1 r2 Q q => by
  cases r1
  cases r2 with
  | lst h1 a1 =>
    have e1 := RepA.dI_inv a1
    subst e1
    refine ⟨_, _, rfl, .inl (ls_same e h1).sq, rfl, flats_int ns, ?_⟩
    show Q (.bl (L2.inV (.int x) (ns.map V.int))) H
    rw [inV_int]
    exact q _ G H (Grow.refl e) (.bl _)

/-- range(k), k any whole number -/
theorem di_rngI {Γ : List B} {ta : TA} {k : Int} (h : DAr K ta Γ [.int k]) (h1 : -1000000 ≤ k) (h2 : k ≤ 1000000) : DI K (iRng1 ta) Γ ((List.range k.toNat).map fun i : Nat => D.int (i : Int)) := fun σ G H e s R q => h σ G H e s _ fun vs G1 H1 g1 r1 => by
  cases r1 with
  | cons a b =>
    cases a
    cases b
    refine ⟨k, rfl, by omega, by omega, q _ G1 H1 g1 ⟨YFn (fun i => .int (0 + (i : Int))), ?_, fun i G2 H x H' d e1 e2 y hd => ?_⟩⟩
    · rw [List.length_map, List.length_range]
      exact walk_range.mono (fun _ _ => trivial) fun _ _ _ _ _ _ y => y
    · obtain ⟨rfl, rfl⟩ := y
      rw [List.getElem?_map] at hd
      by_cases hi : i < k.toNat
      · rw [List.getElem?_range hi] at hd
        cases hd
        refine ⟨G2, Grow.refl e2, ?_⟩
        show Rep K G2 (V.int (0 + (i : Int))) (D.int (i : Int))
        rw [Int.zero_add]
        exact .int _
      · rw [List.getElem?_eq_none (by rw [List.length_range]; omega)] at hd
        cases hd
theorem zip_range {xs ys : List Int} (h : ys.length = xs.length) : zipD (dI xs) (dI ys) = (List.range xs.length).map fun i => D.tup [.int (xs.getD i 0), .int (ys.getD i 0)] := by
  apply List.ext_getElem?
  intro i
  by_cases hi : i < xs.length
  · have hl : i < (zipD (dI xs) (dI ys)).length := by
      rw [zipD_len, List.length_map, List.length_map]
      omega
    obtain ⟨a, b, h1, h2, h3⟩ := zipD_at (dI xs) (dI ys) i _ (List.getElem?_eq_getElem hl)
    rw [List.getElem?_eq_getElem hl, h3, List.getElem?_map, List.getElem?_range hi]
    rw [List.getElem?_map, List.getElem?_eq_getElem hi] at h1
    rw [List.getElem?_map, List.getElem?_eq_getElem (by omega)] at h2
    cases h1
    cases h2
    show _ = some (D.tup [.int (xs.getD i 0), .int (ys.getD i 0)])
    rw [List.getD_eq_getElem?_getD, List.getD_eq_getElem?_getD, List.getElem?_eq_getElem hi, List.getElem?_eq_getElem (by omega)]
    rfl
  · rw [List.getElem?_eq_none (by rw [zipD_len, List.length_map, List.length_map]; omega), List.getElem?_eq_none (by rw [List.length_map, List.length_range]; omega)]

/-! ## objects -/
def look : List (Str × D) → Str → Option D
  | [], _ => none
  | (g, d) :: r, f => if f = g then some d else look r f
theorem look_nil {f : Str} : look [] f = none := rfl
theorem look_hit {f : Str} {d : D} {r : List (Str × D)} : look ((f, d) :: r) f = some d := if_pos rfl
theorem look_miss {f g : Str} {d : D} {r : List (Str × D)} {o : Option D} (h : ¬ f = g) (k : look r f = o) : look ((g, d) :: r) f = o := (if_neg h).trans k
theorem lookup_cons {α : Type} (f g : Str) (v : α) (r : List (Str × α)) : ((g, v) :: r).lookup f = if f = g then some v else r.lookup f := by
  by_cases h : f = g
  · rw [if_pos h, List.lookup_cons, show (f == g) = true from by rw [h]; exact BEq.rfl]
  · rw [if_neg h, List.lookup_cons, show (f == g) = false from Bool.eq_false_iff.mpr fun z => h (eq_of_beq z)]
theorem RepF.at {G : Hp} : ∀ {vs : List (Str × V)} {ds : List (Str × D)} {f : Str} {d : D}, RepF K G vs ds → look ds f = some d → ∃ v, vs.lookup f = some v ∧ Rep K G v d
  | _, _, _, _, .nil, h => by cases h
  | _, _, f, d, .cons (f := g) (v := v) (vs := vs) (ds := ds) r t, h => by
    rw [lookup_cons]
    unfold look at h
    split at h
    · rename_i e
      cases h
      exact ⟨v, by rw [if_pos e], r⟩
    · rename_i e
      rw [if_neg e]
      exact RepF.at t h
theorem RepF.none {G : Hp} : ∀ {vs : List (Str × V)} {ds : List (Str × D)} {f : Str}, RepF K G vs ds → look ds f = none → vs.lookup f = none
  | _, _, _, .nil, _ => rfl
  | _, _, f, .cons (f := g) (v := v) (vs := vs) (ds := ds) r t, h => by
    rw [lookup_cons]
    unfold look at h
    split at h
    · cases h
    · rename_i e
      rw [if_neg e]
      exact RepF.none t h
theorem de_fld {C : Addr} {fs : List (Str × D)} {f : Str} (h : DE K te Γ (.ins C fs)) (c : Cls K C) (n : NoAttr K C f) (hf : look fs f = some d) : DE K (tFld K te f) Γ d := fun σ G H e s Q q =>
  h σ G H e s _ fun v G1 H1 g1 r1 => by
    cases r1 with
    | ins h1 h2 =>
      obtain ⟨v, h3, h4⟩ := h2.at hf
      exact ⟨_, C, _, _, v, rfl, g1.i _ _ h1, c, n, h3, q v G1 H1 g1 h4⟩
theorem de_meth {C : Addr} {fs : List (Str × D)} {m : Str} {n : Nat} {R : List D → D → Prop} {E : XK} {t : TA} {ds : List D} (h : DE K te Γ (.ins C fs)) (hn : look fs m = none) (ha : DAr K t Γ ds) (hR : R (.ins C fs :: ds) d) (hl : ds.length + 1 = n) : DE K (tMeth C m (spR K n R) [] E te t) Γ d := fun σ G H e s Q q =>
  h σ G H e s _ fun v G1 H1 g1 r1 => by
    cases r1 with
    | @ins a _ dx vs _ h1 h2 =>
      refine ⟨a, dx, vs, rfl, g1.i _ _ h1, h2.none hn, ha σ G1 H1 g1.i (s.mono g1.g) _ fun us G2 H2 g2 r2 => ?_⟩
      exact ⟨G2, .ins C fs :: ds, d, hl, g2.i, (s.tb.mono g1.g).mono g2.g, by rw [List.append_nil]; exact .cons ((Rep.ins h1 h2).mono g2.g) r2, hR, fun v G' H' g r => q v G' H' ((g1.trans g2).trans g) r⟩
/-- isinstance(x, C) -/
theorem rc_isC {C D : Addr} {fs : List (Str × DL.D)} {b : Bool} (c : C8.InsC K C) (h : PySem.W.kitOne K (.ref C) (.ref D) = some b) : RCD K (rIsi K) [.ins C fs, .cls D] (.bl b) := fun vs G H e ra Q q => by
  cases ra with
  | cons r1 r2 =>
    cases r2 with
    | cons r2 r3 =>
      cases r3
      cases r2
      cases r1 with
      | ins h1 _ => exact ⟨_, _, .ref C, .ref D, b, rfl, .own D, .base (TyOf.ins (e _ _ h1) c.cl c.ha c.hn c.htk c.hm), h, q _ G H (Grow.refl e) (.bl _)⟩
theorem de_cls {C : Addr} : DE K (tC (.ref C)) Γ (.cls C) := de_c fun _ => .cls C

/-! ## the fields of an object of one's own -/
def putC (f : Str) (c : Ch) : List (Str × Ch) → List (Str × Ch)
  | [] => [(f, c)]
  | (g, x) :: r => if g = f then (g, c) :: r else (g, x) :: putC f c r
def lookC : List (Str × Ch) → Str → Option Ch
  | [], _ => none
  | (g, x) :: r, f => if f = g then some x else lookC r f
theorem lookC_nil {f : Str} : lookC [] f = none := rfl
theorem lookC_hit {f : Str} {d : Ch} {r : List (Str × Ch)} : lookC ((f, d) :: r) f = some d := if_pos rfl
theorem lookC_miss {f g : Str} {d : Ch} {r : List (Str × Ch)} {o : Option Ch} (h : ¬ f = g) (k : lookC r f = o) : lookC ((g, d) :: r) f = o := (if_neg h).trans k
theorem putC_hit {f : Str} {c d : Ch} {r : List (Str × Ch)} : putC f c ((f, d) :: r) = (f, c) :: r := if_pos rfl
theorem putC_miss {f g : Str} {c d : Ch} {r r' : List (Str × Ch)} (h : ¬ f = g) (k : putC f c r = r') : putC f c ((g, d) :: r) = (g, d) :: r' := by
  rw [← k]
  exact if_neg fun z => h z.symm
theorem putC_nil {f : Str} {c : Ch} : putC f c [] = [(f, c)] := rfl
theorem ownF_keys {G H : Hp} : ∀ {vs : List (Str × V)} {fs : List (Str × Ch)} {as : List Addr}, OwnF K G H vs fs as → vs.length = fs.length
  | _, _, _, .nil => rfl
  | _, _, _, .cons _ r => congrArg (· + 1) (ownF_keys r)
/-- a field that was not there -/
theorem ownF_new {G H : Hp} {f : Str} {v : V} {c : Ch} {cs : List Addr} (o : OwnC K G H v c cs) : ∀ {vs : List (Str × V)} {fs : List (Str × Ch)} {as : List Addr}, OwnF K G H vs fs as → lookC fs f = none → OwnF K G H (putF f v vs) (putC f c fs) (as ++ cs)
  | _, _, _, .nil, _ => by
    have z := OwnF.cons (f := f) o OwnF.nil
    rwa [List.append_nil] at z
  | _, _, _, .cons (f := g) (v := u) (vs := vs) (c := x) (cs := fs) (as := a1) (bs := b1) p r, h => by
    unfold lookC at h
    split at h
    · cases h
    · rename_i e
      have e' : ¬ g = f := fun z => e z.symm
      show OwnF K G H (if g = f then (g, v) :: vs else (g, u) :: putF f v vs) (if g = f then (g, c) :: fs else (g, x) :: putC f c fs) _
      rw [if_neg e', if_neg e', List.append_assoc]
      exact .cons p (ownF_new o r h)
section
variable {bs : Base} {G H : Hp} {σ : L2.St} {A : Nat → List Addr} {t : Option Addr} {C : Addr} {fs : List (Str × Ch)} {i : Nat}
theorem oo_at (e : EnvA K bs G H σ Γ A) (hi : Γ[i]? = some (.oo t C fs)) : ∃ p dx vs as, σ[i]? = some (some (.ref p)) ∧ (∀ q, t = some q → q = p) ∧ H p = some (.ins C dx vs) ∧ OwnF K G H vs fs as ∧ A i = p :: as := by
  obtain ⟨v, h1, h2⟩ := e.at_ i _ hi (fun z => by cases z)
  generalize hA : A i = as at h2
  cases h2 with
  | oo ht h r => exact ⟨_, _, _, _, h1, ht, h, r, rfl⟩
end
def ChE (K : PySem.W.Frag) (te : TE) (Γ : List B) : Ch → Prop
  | .st d => DEo K te Γ d
  | .ow ds => DXo K te Γ (.ow ds)
/-- self.f = e: a new field -/
theorem ds_fld {t : Option Addr} {C : Addr} {fs : List (Str × Ch)} {f : Str} {P : Post} {c : Ch} (i : Nat) (hi : Γ[i]? = some (.oo t C fs)) (hC : Cls K C) (hN : NoAttr K C f) (hf : lookC fs f = none) (hl : fs.length < 1000)
    (h : ChE K te Γ c) (k : P.nx (Γ.set i (.oo t C (putC f c fs)))) : DS K (sFld K (tVar i) te f) Γ P := fun bs σ G H Dn ⟨A, e⟩ fi => by
  have main : ∀ (v : V) (G' H' : Hp) (cs : List Addr), Grow G H G' H' → OwnC K G' H' v c cs → cs.Nodup → (∀ a ∈ cs, H a = none ∧ G' a = none) → tVar i σ H' fun x H2 => ∃ a C dx fs, x = .ref a ∧ H2 a = some (.ins C dx fs) ∧ Cls K C ∧ NoAttr K C f ∧ fs.length < 1000 ∧ Dn.nx σ (upd H2 a (.ins C dx (putF f v fs))) := by
    intro v G' H' cs g o nd hn
    have e' := e.grow g
    obtain ⟨p, dx, vs, as, h1, h2, h3, h4, h5⟩ := oo_at e' hi
    refine ⟨_, h1, p, C, dx, vs, rfl, h3, hC, hN, by rw [ownF_keys h4]; exact hl, ?_⟩
    have hp : p ∈ A i := by rw [h5]; exact List.mem_cons_self
    have nda := e'.nd i
    rw [h5] at nda
    have npa : ¬ p ∈ as := (List.nodup_cons.mp nda).1
    have hpc : ∀ a ∈ cs, a ≠ p := fun a m z => (e.fr i p hp).2.2.ne (by rw [← z]; exact (hn a m).1)
    have npc : ¬ p ∈ cs := fun m => hpc p m rfl
    -- the object, changed; the new cells beside
    have e2 : EnvA K bs G' (upd H' p (.ins C dx (putF f v vs))) σ (Γ.set i .no) (fun j => if j = i then [] else A j) := by
      obtain ⟨f1, f2, f3⟩ := e'.fr i p hp
      refine ⟨e'.gr.mut f1 f2 f3.pl, by rw [List.length_set]; exact e'.len, fun j b hb hnb => ?_, fun j a m => ?_, fun j l a hjl m1 m2 => ?_, fun j => ?_, e'.tb⟩
      · rcases set_get hb with ⟨_, z, _⟩ | ⟨hij, hb⟩
        · exact (hnb z).elim
        · obtain ⟨w, w1, w2⟩ := e'.at_ j b hb hnb
          refine ⟨w, w1, ?_⟩
          rw [if_neg fun z => hij z.symm]
          exact w2.mono (Same.refl _) (Agree.upd fun m => e'.di i j p hij hp m)
      · by_cases hj : j = i
        · rw [if_pos hj] at m
          cases m
        · rw [if_neg hj] at m
          obtain ⟨x1, x2, x3⟩ := e'.fr j a m
          obtain ⟨u, u1, u2⟩ := x3
          refine ⟨x1, x2, u, ?_, u2⟩
          rw [upd_ne fun z => e'.di i j p (fun z => hj z.symm) hp (by rw [← z]; exact m)]
          exact u1
      · by_cases hj : j = i
        · rw [if_pos hj] at m1
          cases m1
        · by_cases hk : l = i
          · rw [if_pos hk] at m2
            cases m2
          · rw [if_neg hj] at m1
            rw [if_neg hk] at m2
            exact e'.di j l a hjl m1 m2
      · by_cases hj : j = i
        · rw [if_pos hj]
          exact List.nodup_nil
        · rw [if_neg hj]
          exact e'.nd j
    have ho : Own K G' (upd H' p (.ins C dx (putF f v vs))) (.ref p) (.oo t C (putC f c fs)) (p :: (as ++ cs)) :=
      .oo h2 upd_same (ownF_new (o.mono (Same.refl _) (Agree.upd npc)) (h4.mono (Same.refl _) (Agree.upd npa)) hf)
    have e3 := e2.put i ho (fun a m => ?_) (fun j a hj m1 m2 => ?_) ?_
    · have hσ : σ.set i (some (V.ref p)) = σ := by
        apply List.ext_getElem?
        intro j
        by_cases hj : i = j
        · subst hj
          rw [List.getElem?_set_self (List.getElem?_eq_some_iff.mp h1).1, h1]
        · rw [List.getElem?_set_ne hj]
      rw [hσ, List.set_set] at e3
      exact fi.nx _ σ G' _ k ⟨_, e3⟩
    · rcases List.mem_cons.mp m with m | m
      · rw [m]
        exact ⟨(e'.fr i p hp).1, (e'.fr i p hp).2.1⟩
      · rcases List.mem_append.mp m with m | m
        · have := e'.fr i a (by rw [h5]; exact List.mem_cons_of_mem _ m)
          exact ⟨this.1, this.2.1⟩
        · exact ⟨none_back e.gr.h (hn a m).1, (hn a m).2⟩
    · rw [if_neg hj] at m1
      rcases List.mem_cons.mp m2 with m | m
      · exact e'.di j i a hj m1 (by rw [h5, m]; exact List.mem_cons_self)
      · rcases List.mem_append.mp m with m | m
        · exact e'.di j i a hj m1 (by rw [h5]; exact List.mem_cons_of_mem _ m)
        · exact (e.fr j a m1).2.2.ne (hn a m).1
    · refine List.nodup_cons.mpr ⟨fun m => ?_, List.nodup_append.mpr ⟨(List.nodup_cons.mp nda).2, nd, fun a m b mb z => ?_⟩⟩
      · rcases List.mem_append.mp m with m | m
        · exact npa m
        · exact npc m
      · subst z
        exact (e.fr i a (by rw [h5]; exact List.mem_cons_of_mem _ m)).2.2.ne (hn a mb).1
  cases c with
  | st d => exact (show DEo K te Γ d from h) σ bs G H ⟨A, e⟩ _ fun v G' H' g r => main v G' H' [] g (.st r) List.nodup_nil fun _ m => (List.not_mem_nil m).elim
  | ow ds =>
    refine (show DXo K te Γ (.ow ds) from h) σ bs G H ⟨A, e⟩ _ fun v G' H' as g n => ?_
    obtain ⟨o, nd, fr⟩ := n
    cases o with
    | ow a1 a2 => exact main _ G' H' _ g (.ow a1 a2) nd fr
theorem ds_fldI {t : Option Addr} {C : Addr} {fs fs' : List (Str × Ch)} {f : Str} {P : Post} {c : Ch} (i : Nat) (hi : Γ[i]? = some (.oo t C fs)) (hC : Cls K C) (hN : NoAttr K C f) (hf : lookC fs f = none) (hl : fs.length < 1000) (hp : putC f c fs = fs')
    (h : ChE K te Γ c) (k : P.nx (Γ.set i (.oo t C fs'))) : DS K (sFld K (tVar i) te f) Γ P := ds_fld i hi hC hN hf hl h (by rw [hp]; exact k)
/-- a list that hangs in an object of one's own -/
theorem ownF_list {G H : Hp} {f : Str} {ds es : List D} : ∀ {vs : List (Str × V)} {fs : List (Str × Ch)} {as : List Addr}, OwnF K G H vs fs as → as.Nodup → lookC fs f = some (.ow ds) →
    ∃ l ws, vs.lookup f = some (.ref l) ∧ H l = some (.lst ws) ∧ RepA K G ws ds ∧ l ∈ as ∧ ∀ us es, RepA K G us es → OwnF K G (upd H l (.lst us)) vs (putC f (.ow es) fs) as
  | _, _, _, .nil, _, h => by cases h
  | _, _, _, .cons (f := g) (v := u) (vs := vs) (c := x) (cs := fs) (as := a1) (bs := b1) p r, nd, h => by
    have nd2 := List.nodup_append.mp nd
    rw [lookup_cons]
    unfold lookC at h
    split at h
    · rename_i e
      cases h
      cases p with
      | @ow l ws _ q1 q2 =>
        refine ⟨l, ws, by rw [if_pos e], q1, q2, List.mem_append_left _ List.mem_cons_self, fun us es ru => ?_⟩
        show OwnF K G _ ((g, V.ref l) :: vs) (if g = f then (g, .ow es) :: fs else _) _
        rw [if_pos e.symm]
        exact .cons (.ow upd_same ru) (r.mono (Same.refl G) (Agree.upd fun m => nd2.2.2 l List.mem_cons_self l m rfl))
    · rename_i e
      obtain ⟨l, ws, h1, h2, h3, h4, h5⟩ := ownF_list (ds := ds) (es := es) r nd2.2.1 h
      refine ⟨l, ws, by rw [if_neg e]; exact h1, h2, h3, List.mem_append_right _ h4, fun us es ru => ?_⟩
      show OwnF K G _ ((g, u) :: vs) (if g = f then _ else (g, x) :: putC f (.ow es) fs) _
      rw [if_neg fun z => e z.symm]
      exact .cons (p.mono (Same.refl G) (Agree.upd fun m => nd2.2.2 l m l h4 rfl)) (h5 us es ru)
section
variable {bs : Base} {G H : Hp} {σ : L2.St} {A : Nat → List Addr} {t : Option Addr} {C : Addr} {fs : List (Str × Ch)} {i : Nat} {f : Str} {ds : List D}
theorem oo_list (e : EnvA K bs G H σ Γ A) (hi : Γ[i]? = some (.oo t C fs)) (hf : lookC fs f = some (.ow ds)) : ∃ p dx vs l ws, σ[i]? = some (some (.ref p)) ∧ H p = some (.ins C dx vs) ∧ vs.lookup f = some (.ref l) ∧ H l = some (.lst ws) ∧ RepA K G ws ds ∧
    ∀ us es, RepA K G us es → EnvA K bs G (upd H l (.lst us)) σ (Γ.set i (.oo t C (putC f (.ow es) fs))) A := by
  obtain ⟨p, dx, vs, as, h1, h2, h3, h4, h5⟩ := oo_at e hi
  have nd := e.nd i
  rw [h5] at nd
  obtain ⟨l, ws, q1, q2, q3, q4, q5⟩ := ownF_list (es := []) h4 (List.nodup_cons.mp nd).2 hf
  refine ⟨p, dx, vs, l, ws, h1, h3, q1, q2, q3, fun us es ru => e.change trivial hi h1 (by rw [h5]; exact List.mem_cons_of_mem _ q4) ?_⟩
  rw [h5]
  refine .oo (dx := dx) (vs := vs) h2 ?_ (q5 us es ru)
  rw [upd_ne fun z => (List.nodup_cons.mp nd).1 (by rw [z]; exact q4)]
  exact h3
end
/-- x.f.append(e) -/
theorem ds_fapp {t : Option Addr} {C : Addr} {fs : List (Str × Ch)} {f : Str} {P : Post} {ds : List D} (i : Nat) (hi : Γ[i]? = some (.oo t C fs)) (hC : Cls K C) (hN : NoAttr K C f) (hf : lookC fs f = some (.ow ds)) (h : DEo K te Γ d) (hl : ds.length ≤ 100000)
    (k : P.nx (Γ.set i (.oo t C (putC f (.ow (ds ++ [d])) fs)))) : DS K (tDrop (tBM K "list" rAppend (tFld K (tVar i) f) (tCons te tNil))) Γ P := fun bs σ G H Dn ⟨A, e⟩ fi => by
  obtain ⟨p, dx, vs, l, ws, h1, h2, h3, h4, h5, h6⟩ := oo_list e hi hf
  refine ⟨_, h1, p, C, dx, vs, _, rfl, h2, hC, hN, h3, Or.inl ⟨rfl, _, Or.inl (Or.inl h4)⟩, h σ bs G H ⟨A, e⟩ _ fun v G' H' g r => ?_⟩
  obtain ⟨p', dx', vs', l', ws', q1, q2, q3, q4, q5, q6⟩ := oo_list (e.grow g) hi hf
  rw [h1] at q1
  cases q1
  rw [g.h _ _ h2] at q2
  cases q2
  rw [h3] at q3
  cases q3
  refine ⟨l, ws', v, rfl, rfl, q4, ?_, fi.nx _ _ G' _ k ⟨A, q6 _ _ (q5.app (.cons r .nil))⟩⟩
  rw [q5.len]
  exact Nat.lt_of_le_of_lt hl (by decide)
/-- x.f.pop() -/
theorem ds_fpop {t : Option Addr} {C : Addr} {fs : List (Str × Ch)} {f : Str} {P : Post} {ds : List D} (i : Nat) (hi : Γ[i]? = some (.oo t C fs)) (hC : Cls K C) (hN : NoAttr K C f) (hf : lookC fs f = some (.ow (ds ++ [d])))
    (k : P.nx (Γ.set i (.oo t C (putC f (.ow ds) fs)))) : DS K (tDrop (tBM0 K "list" rPop (tFld K (tVar i) f))) Γ P := fun bs σ G H Dn ⟨A, e⟩ fi => by
  obtain ⟨p, dx, vs, l, ws, h1, h2, h3, h4, h5, h6⟩ := oo_list e hi hf
  have hn : (ds ++ [d])[ws.length - 1]? = some d := by
    rw [h5.len, List.length_append, List.length_singleton, Nat.add_sub_cancel, List.getElem?_append_right (Nat.le_refl _), Nat.sub_self]
    rfl
  obtain ⟨v, hv, rv⟩ := h5.at hn
  have hr := h5.dropLast
  rw [List.dropLast_concat] at hr
  exact ⟨_, h1, p, C, dx, vs, _, rfl, h2, hC, hN, h3, Or.inl ⟨rfl, _, Or.inl (Or.inl h4)⟩, l, ws, v, rfl, rfl, h4, hv, fi.nx _ _ G _ k ⟨A, h6 _ _ hr⟩⟩
end
theorem ds_fappI {Γ : List B} {te : TE} {d : D} {t : Option Addr} {C : Addr} {fs fs' : List (Str × Ch)} {f : Str} {P : Post} {ds : List D} (i : Nat) (hi : Γ[i]? = some (.oo t C fs)) (hC : Cls K C) (hN : NoAttr K C f) (hf : lookC fs f = some (.ow ds)) (hp : putC f (.ow (ds ++ [d])) fs = fs') (h : DEo K te Γ d) (hl : ds.length ≤ 100000)
    (k : P.nx (Γ.set i (.oo t C fs'))) : DS K (tDrop (tBM K "list" rAppend (tFld K (tVar i) f) (tCons te tNil))) Γ P := ds_fapp i hi hC hN hf h hl (by rw [hp]; exact k)
theorem ds_fpopI {Γ : List B} {d : D} {t : Option Addr} {C : Addr} {fs fs' : List (Str × Ch)} {f : Str} {P : Post} {ds : List D} (i : Nat) (hi : Γ[i]? = some (.oo t C fs)) (hC : Cls K C) (hN : NoAttr K C f) (hf : lookC fs f = some (.ow (ds ++ [d]))) (hp : putC f (.ow ds) fs = fs')
    (k : P.nx (Γ.set i (.oo t C fs'))) : DS K (tDrop (tBM0 K "list" rPop (tFld K (tVar i) f))) Γ P := ds_fpop i hi hC hN hf (by rw [hp]; exact k)
/-- list(x) for a list of one's own -/
theorem dx_list {Γ : List B} {ta : TA} {ds : List D} (h : DAr K ta Γ [.lst ds]) : DX K (tCB (rListX K) ta) Γ (.ow ds) := fun σ G H e s Q q =>
  h σ G H e s _ fun vs G1 H1 g1 r1 => by
    cases r1 with
    | cons a b =>
      cases b
      cases a with
      | @lst a ws _ hs ra =>
        refine ⟨a, ws, rfl, .inl (ls_same g1.i hs).sq, fun l hl => ?_⟩
        exact q (.ref l) G1 _ [l] (g1.trans (Grow.side g1.i (same_new hl))) ((New.list g1.i hl ra).back g1.h)
/-- a call that hands a new thing, given up at once -/
theorem de_callO {R : List D → B → Prop} {E : XK} {ta : TA} {Γ : List B} {ds : List D} {b : B} {d : D} {n : Nat} (h : DAr K ta Γ ds) (hR : R ds b) (hn : ds.length = n) (e : b.d = d) : DE K (tCall (spO K n R) [] E ta) Γ d := de_new (dx_call h hR hn) e
theorem dx_rev {te : TE} {Γ : List B} {ds : List D} (h : DE K te Γ (.lst ds)) : DX K (tRevL K te) Γ (.ow ds.reverse) := fun σ G H e s Q q =>
  h σ G H e s _ fun v G1 H1 g1 r1 => by
    cases r1 with
    | lst a b =>
      exact ⟨_, _, rfl, (ls_same g1.i a).sq, fun p hp => q _ G1 _ [p] (g1.trans (Grow.side g1.i (same_new hp))) ((New.list g1.i hp b.rev).back g1.h)⟩
/-! ## a list of lists of one's own -/
def DAX (K : PySem.W.Frag) (ta : TA) (Γ : List B) (cs : List Ch) : Prop := ∀ (σ : L2.St) (G H : Hp), Same G H → Sl K G σ Γ → ∀ Q : List V → Hp → Prop, (∀ vs G' H' as, Grow G H G' H' → OwnL K G' H' vs cs as → as.Nodup → (∀ a ∈ as, H a = none ∧ G' a = none) → Q vs H') → ta σ H Q
section
variable {Γ : List B} {te : TE} {ta tr : TA} {d : D} {ds : List D} {cs : List Ch}
theorem dax_nil : DAX K tNil Γ [] := fun σ G H e s Q q => q [] G H [] (Grow.refl e) .nil List.nodup_nil fun _ m => (List.not_mem_nil m).elim
theorem dax_cons (h : DX K te Γ (.ow ds)) (hr : DAX K tr Γ cs) : DAX K (tCons te tr) Γ (.ow ds :: cs) := fun σ G H e s Q q =>
  h σ G H e s _ fun v G1 H1 as g1 n1 => hr σ G1 H1 g1.i (s.mono g1.g) _ fun vs G2 H2 bs g2 o2 nd2 f2 => by
    obtain ⟨o, nd, fr⟩ := n1
    cases o with
    | @ow l ws _ h1 h2 =>
      have hl := fr l List.mem_cons_self
      refine q _ G2 H2 ([l] ++ bs) (g1.trans g2) (.cons (.ow (g2.h _ _ h1) (h2.mono g2.g)) o2) (List.nodup_append.mpr ⟨nd, nd2, fun a m b mb z => ?_⟩) fun a m => ?_
      · rw [List.mem_singleton.mp m] at z
        subst z
        rw [(f2 l mb).1] at h1
        cases h1
      · rcases List.mem_append.mp m with m | m
        · rw [List.mem_singleton.mp m]
          exact ⟨hl.1, g2.u l hl.2 (by rw [h1]; exact fun z => by cases z)⟩
        · exact ⟨none_back g1.h (f2 a m).1, (f2 a m).2⟩
theorem dax_st (h : DE K te Γ d) (hr : DAX K tr Γ cs) : DAX K (tCons te tr) Γ (.st d :: cs) := fun σ G H e s Q q =>
  h σ G H e s _ fun v G1 H1 g1 r1 => hr σ G1 H1 g1.i (s.mono g1.g) _ fun vs G2 H2 bs g2 o2 nd2 f2 =>
    q _ G2 H2 ([] ++ bs) (g1.trans g2) (.cons (.st (r1.mono g2.g)) o2) nd2 fun a m => ⟨none_back g1.h (f2 a m).1, (f2 a m).2⟩
theorem OwnL.len {G H : Hp} : ∀ {vs : List V} {cs : List Ch} {as : List Addr}, OwnL K G H vs cs as → vs.length = cs.length
  | _, _, _, .nil => rfl
  | _, _, _, .cons _ r => congrArg (· + 1) (OwnL.len r)
theorem dx_ol (h : DAX K ta Γ cs) (hl : cs.length ≤ 1000) : DX K (tLst ta) Γ (.ol cs) := fun σ G H e s Q q =>
  h σ G H e s _ fun vs G1 H1 as g1 o nd fr => ⟨by rw [o.len]; exact Nat.le_trans hl (by decide), fun p hp => by
    have np : ¬ p ∈ as := fun m => (o.ex p m).ne hp
    refine q (.ref p) G1 _ (p :: as) (g1.trans (Grow.side g1.i (same_new hp))) ⟨.ol upd_same (o.mono (Same.refl _) (Agree.upd np)), List.nodup_cons.mpr ⟨np, nd⟩, fun a m => ?_⟩
    rcases List.mem_cons.mp m with m | m
    · rw [m]
      exact ⟨none_back g1.h hp, none_back g1.i hp⟩
    · exact fr a m⟩
theorem ownL_list {G H : Hp} {ds : List D} : ∀ {vs : List V} {cs : List Ch} {as : List Addr} {k : Nat}, OwnL K G H vs cs as → as.Nodup → cs[k]? = some (.ow ds) →
    ∃ l ws, vs[k]? = some (.ref l) ∧ H l = some (.lst ws) ∧ RepA K G ws ds ∧ l ∈ as ∧ ∀ us es, RepA K G us es → OwnL K G (upd H l (.lst us)) vs (cs.set k (.ow es)) as
  | _, _, _, _, .nil, _, h => by cases h
  | _, _, _, 0, .cons (as := a1) (bs := b1) p r, nd, h => by
    have nd2 := List.nodup_append.mp nd
    cases h
    cases p with
    | @ow l ws _ q1 q2 =>
      exact ⟨l, ws, rfl, q1, q2, List.mem_append_left _ List.mem_cons_self, fun us es ru => .cons (.ow upd_same ru) (r.mono (Same.refl G) (Agree.upd fun m => nd2.2.2 l List.mem_cons_self l m rfl))⟩
  | _, _, _, k + 1, .cons (as := a1) (bs := b1) p r, nd, h => by
    have nd2 := List.nodup_append.mp nd
    obtain ⟨l, ws, h1, h2, h3, h4, h5⟩ := ownL_list (k := k) r nd2.2.1 (by simpa using h)
    exact ⟨l, ws, by simpa using h1, h2, h3, List.mem_append_right _ h4, fun us es ru => .cons (p.mono (Same.refl G) (Agree.upd fun m => nd2.2.2 l m l h4 rfl)) (h5 us es ru)⟩
section
variable {bs : Base} {G H : Hp} {σ : L2.St} {A : Nat → List Addr} {i k : Nat}
theorem ol_list (e : EnvA K bs G H σ Γ A) (hi : Γ[i]? = some (.ol cs)) (hk : cs[k]? = some (.ow ds)) : ∃ p vs l ws, σ[i]? = some (some (.ref p)) ∧ H p = some (.lst vs) ∧ vs.length = cs.length ∧ vs[k]? = some (.ref l) ∧ H l = some (.lst ws) ∧ RepA K G ws ds ∧
    ∀ us es, RepA K G us es → EnvA K bs G (upd H l (.lst us)) σ (Γ.set i (.ol (cs.set k (.ow es)))) A := by
  obtain ⟨v, h1, h2⟩ := e.at_ i _ hi (fun z => by cases z)
  have nd := e.nd i
  generalize hA : A i = as at h2 nd
  cases h2 with
  | @ol p vs _ as h3 h4 =>
    obtain ⟨l, ws, q1, q2, q3, q4, q5⟩ := ownL_list h4 (List.nodup_cons.mp nd).2 hk
    refine ⟨p, vs, l, ws, h1, h3, h4.len, q1, q2, q3, fun us es ru => e.change trivial hi h1 (by rw [hA]; exact List.mem_cons_of_mem _ q4) ?_⟩
    rw [hA]
    refine .ol (vs := vs) ?_ (q5 us es ru)
    rw [upd_ne fun z => (List.nodup_cons.mp nd).1 (by rw [z]; exact q4)]
    exact h3
end
/-- x[k].append(e), x a list of lists of one's own -/
theorem ds_oapp {P : Post} {ti : TE} {m : Int} (i k : Nat) (hi : Γ[i]? = some (.ol cs)) (hm : DE K ti Γ (.int m)) (hk : ixN cs.length m = some k) (hc : cs[k]? = some (.ow ds)) (h : DEo K te Γ d) (hl : ds.length ≤ 100000)
    (kk : P.nx (Γ.set i (.ol (cs.set k (.ow (ds ++ [d])))))) : DS K (tDrop (tBM K "list" rAppend (tOp (rIx K) (tVar i) ti) (tCons te tNil))) Γ P := fun bs σ G H Dn ⟨A, e⟩ fi => by
  obtain ⟨p, vs, l, ws, h1, _, _, _, _, _, _⟩ := ol_list e hi hc
  refine ⟨_, h1, hm σ G H e.gr.i e.sl _ fun v0 G0 H0 g0 r0 => ?_⟩
  cases r0
  obtain ⟨p', vs', l', ws', q1, q2, qn, q3, q4, q5, q6⟩ := ol_list (e.grow g0) hi hc
  rw [h1] at q1
  cases q1
  refine .inl ⟨p, vs', m, .ref l', rfl, rfl, (LsX.of q2).sq, ?_, ?_⟩
  · unfold atI
    rw [qn, hk]
    exact q3
  refine ⟨Or.inl ⟨rfl, _, Or.inl (Or.inl q4)⟩, h σ bs G0 H0 ⟨A, e.grow g0⟩ _ fun v G' H' g r => ?_⟩
  obtain ⟨p2, vs2, l2, ws2, t1, t2, tn, t3, t4, t5, t6⟩ := ol_list ((e.grow g0).grow g) hi hc
  rw [h1] at t1
  cases t1
  rw [g.h _ _ q2] at t2
  cases t2
  rw [q3] at t3
  cases t3
  refine ⟨l', ws2, v, rfl, rfl, t4, ?_, fi.nx _ _ G' _ kk ⟨A, t6 _ _ (t5.app (.cons r .nil))⟩⟩
  rw [t5.len]
  exact Nat.lt_of_le_of_lt hl (by decide)
/-- x, y, z = [], [], e: two lists of one's own -/
theorem ds_par3O {P : Post} (i j l : Nat) (hij : i ≠ j) (h : DE K te Γ d) (k : P.nx (((Γ.set i (.ow [])).set j (.ow [])).set l (.im d))) : DS K (tPar3 i j l (tCons (tLst tNil) (tCons (tLst tNil) (tCons te tNil)))) Γ P := fun bs σ G H Dn ⟨A, e⟩ fi => by
  refine ⟨Nat.zero_le _, fun p hp => ⟨Nat.zero_le _, fun r hr => ?_⟩⟩
  have s1 : Same H (upd H p (.lst [])) := same_new hp
  have s2 : Same (upd H p (.lst [])) (upd (upd H p (.lst [])) r (.lst [])) := same_new hr
  have hrp : r ≠ p := fun z => by
    rw [z, upd_same] at hr
    cases hr
  have hr0 : H r = none := none_back s1 hr
  refine h σ G _ ((e.gr.i.trans s1).trans s2) e.sl _ fun v G' H' g rv => ⟨_, _, _, rfl, fi.nx _ _ G' H' k ?_⟩
  have gg : Grow G H G' H' := (Grow.side e.gr.i (s1.trans s2)).trans g
  have hp' : H' p = some (.lst []) := g.h _ _ (s2 _ _ upd_same)
  have hr' : H' r = some (.lst []) := g.h _ _ upd_same
  have gp : G' p = none := g.u p (none_back e.gr.i hp) (by rw [s2 _ _ upd_same]; exact fun z => by cases z)
  have gr : G' r = none := g.u r (none_back e.gr.i hr0) (by rw [upd_same]; exact fun z => by cases z)
  have e1 := (e.grow gg).put i (.ow hp' .nil) (as := [p]) (fun a m => by rw [List.mem_singleton.mp m]; exact ⟨none_back e.gr.h hp, gp⟩) (fun j' a _ m1 m2 => by
    rw [List.mem_singleton.mp m2] at m1
    exact (e.fr j' p m1).2.2.ne hp) (List.nodup_cons.mpr ⟨by simp, List.nodup_nil⟩)
  have e2 := e1.put j (.ow hr' .nil) (as := [r]) (fun a m => by rw [List.mem_singleton.mp m]; exact ⟨none_back e.gr.h hr0, gr⟩) (fun j' a _ m1 m2 => by
    rw [List.mem_singleton.mp m2] at m1
    split at m1
    · exact hrp (List.mem_singleton.mp m1)
    · exact (e.fr j' r m1).2.2.ne hr0) (List.nodup_cons.mpr ⟨by simp, List.nodup_nil⟩)
  exact EnvD.set ⟨_, e2⟩ l rv
end
end DL

/-! DR: lists of one's own, read for new ones; things made of lists of one's own; two places exchanged. -/
namespace DL
open PySem PySem.Spec PyProof.Rows L2
variable {K : PySem.W.Frag}
section
variable {Γ Γ' : List B} {te ta tb ti tj : TE} {d : D} {ds es : List D}
/-- a new list of flat things, made while one's own lists are read -/
theorem dxo_fz (h : DX K te (fz Γ) (.ow ds)) (hf : ds.all flat = true) : DXo K te Γ (.ow ds) := fun σ bs G H e Q q =>
  h σ H H (Same.refl H) e.fz Q fun v G' H' as g n => q v G H' as (Grow.side e.gr.i g.h) ⟨by
    have o := n.o
    generalize hA : as = as' at o
    cases o with
    | ow a r => exact .ow a (r.flat hf), n.nd, fun a m => ⟨(n.fr a m).1, none_back e.gr.i (n.fr a m).1⟩⟩
/-- a + b: a new list -/
theorem dx_cat (ha : DE K ta Γ (.lst ds)) (hb : DE K tb Γ (.lst es)) (h : ds.length + es.length ≤ 100000) : DX K (tOp (rAddX K) ta tb) Γ (.ow (ds ++ es)) := fun σ G H e s Q q =>
  ha σ G H e s _ fun x G1 H1 g1 r1 => hb σ G1 H1 g1.i (s.mono g1.g) _ fun y G2 H2 g2 r2 => by
    have r1' := r1.mono g2.g
    cases r1' with
    | lst h1 a1 =>
      cases r2 with
      | lst h2 a2 =>
        refine .inr ⟨_, _, _, _, rfl, rfl, ls_same g2.i h1, ls_same g2.i h2, ?_, fun p hp => q _ G2 _ [p] ((g1.trans g2).trans (Grow.side g2.i (same_new hp))) ((New.list g2.i hp (a1.app a2)).back (g1.trans g2).h)⟩
        rw [a1.len, a2.len]
        exact Nat.le_trans h (by decide)
/-- a[i], a[j] = x, y in a list of one's own -/
theorem ds_swap {P : Post} {m m2 : Int} {x y : D} {n n2 : Nat} (i : Nat) (hi : Γ[i]? = some (.ow ds)) (h : DAo K (tCons ta (tCons tb tNil)) Γ [x, y]) (hm : DEo K ti Γ (.int m)) (hn : ixN ds.length m = some n) (hm2 : DEo K tj (Γ.set i (.ow (ds.set n x))) (.int m2)) (hn2 : ixN ds.length m2 = some n2)
    (k : P.nx (Γ.set i (.ow ((ds.set n x).set n2 y)))) : DS K (tAsg (tTup (tCons ta (tCons tb tNil))) (gTup K 2 (gCons (gSub (tVar i) ti rSetL) (gCons (gSub (tVar i) tj rSetL) gNil)))) Γ P := fun bs σ G H Dn ⟨A, e⟩ f => by
  show (tCons ta (tCons tb tNil)) σ H fun xs H1 => xs.length ≤ sizeLine ∧ ∀ p, H1 p = none → (gTup K 2 (gCons (gSub (tVar i) ti rSetL) (gCons (gSub (tVar i) tj rSetL) gNil))) (.ref p) σ (upd H1 p (.tup xs)) Dn.nx
  refine h σ bs G H ⟨A, e⟩ _ fun vs G1 H1 g1 r1 => ⟨by rw [r1.len]; exact show 2 ≤ sizeLine by decide, fun p hp => ?_⟩
  cases r1 with
  | @cons v1 _ _ _ rx r1 =>
    cases r1 with
    | @cons v2 _ _ _ ry r1 =>
      cases r1
      refine ⟨p, _, rfl, .inl (Rd.of upd_same), rfl, ?_⟩
      refine ⟨_, _, rfl, ?_⟩
      have gg : Grow G1 H1 G1 (upd H1 p (.tup [v1, v2])) := Grow.side g1.i (same_new hp)
      have e1 := (e.grow g1).grow gg
      obtain ⟨l, us, h1, h2, h3, _⟩ := own_at e1 hi
      refine ⟨_, h1, hm σ bs _ _ ⟨A, e1⟩ _ fun w G2 H2 g2 r2 => ?_⟩
      cases r2
      have e2 := e1.grow g2
      obtain ⟨l', us', a1, a2, a3, _⟩ := own_at e2 hi
      rw [h1] at a1
      cases a1
      refine ⟨l, us', m, n, rfl, rfl, a2, by rw [a3.len]; exact hn, ?_⟩
      have e3 := own_set e2 hi h1 (a3.set (rx.mono (gg.g.trans g2.g)) n)
      refine ⟨_, _, rfl, ?_⟩
      have hl : i < Γ.length := (List.getElem?_eq_some_iff.mp hi).1
      have hi3 : (Γ.set i (.ow (ds.set n x)))[i]? = some (.ow (ds.set n x)) := List.getElem?_set_self hl
      obtain ⟨l3, us3, b1, b2, b3, _⟩ := own_at e3 hi3
      refine ⟨_, b1, hm2 σ bs _ _ ⟨A, e3⟩ _ fun w G4 H4 g4 r4 => ?_⟩
      cases r4
      have e4 := e3.grow g4
      obtain ⟨l', us', c1, c2, c3, _⟩ := own_at e4 hi3
      rw [b1] at c1
      cases c1
      refine ⟨l3, us', m2, n2, rfl, rfl, c2, by rw [c3.len, List.length_set]; exact hn2, rfl, ?_⟩
      have e5 := own_set e4 hi3 b1 (c3.set (ry.mono ((gg.g.trans g2.g).trans g4.g)) n2)
      rw [List.set_set] at e5
      exact f.nx _ _ G4 _ k ⟨A, e5⟩
/-! ## things made of lists of one's own: what stands in them goes through as it is -/
/-- the one holds the values themselves, the other what they are -/
inductive LiftC (K : PySem.W.Frag) (G : Hp) : Ch → Ch → Prop
  | st {d : D} : flat d = true → LiftC K G (.st d) (.st d)
  | ow {us : List V} {ds : List D} : RepA K G us ds → LiftC K G (.ow (us.map D.op)) (.ow ds)
inductive LiftF (K : PySem.W.Frag) (G : Hp) : List (Str × Ch) → List (Str × Ch) → Prop
  | nil : LiftF K G [] []
  | cons {f : Str} {c c' : Ch} {r r' : List (Str × Ch)} : LiftC K G c c' → LiftF K G r r' → LiftF K G ((f, c) :: r) ((f, c') :: r')
theorem repA_op {G : Hp} : ∀ {vs us : List V}, RepA K G vs (us.map D.op) → vs = us
  | _, [], .nil => rfl
  | _, u :: us, .cons h r => by
    rw [repA_op r]
    cases h
    rfl
theorem op_repA {G : Hp} : ∀ us : List V, RepA K G us (us.map D.op)
  | [] => .nil
  | u :: us => .cons (.op u) (op_repA us)
theorem OwnC.lift {G G' H : Hp} {v : V} {c c' : Ch} {as : List Addr} (o : OwnC K G' H v c as) (l : LiftC K G c c') : OwnC K G H v c' as := by
  cases l with
  | st hf =>
    cases o with
    | st r => exact .st (r.flat hf)
  | ow r =>
    cases o with
    | ow h r' =>
      rw [repA_op r'] at h
      exact .ow h r
theorem OwnF.lift {G G' H : Hp} : ∀ {vs : List (Str × V)} {fs fs' : List (Str × Ch)} {as : List Addr}, OwnF K G' H vs fs as → LiftF K G fs fs' → OwnF K G H vs fs' as
  | _, _, _, _, .nil, .nil => .nil
  | _, _, _, _, .cons o r, .cons l s => .cons (o.lift l) (OwnF.lift r s)
theorem lift_new {G G' H H' : Hp} {v : V} {t : Option Addr} {C : Addr} {fs fs' : List (Str × Ch)} {as : List Addr} (e : Same G H) (n : New K H G' H' v (.oo t C fs) as) (l : LiftF K G fs fs') : New K H G H' v (.oo t C fs') as := ⟨by
    have o := n.o
    generalize as = as' at o
    cases o with
    | oo t h r => exact .oo t h (r.lift l), n.nd, fun a m => ⟨(n.fr a m).1, none_back e (n.fr a m).1⟩⟩
/-- the slots, one of them laid open -/
theorem sl_open {bs : Base} {G H : Hp} {σ : L2.St} {A : Nat → List Addr} (e : EnvA K bs G H σ Γ A) (i : Nat) {v : V} (hv : σ[i]? = some (some v)) (r : Rep K H v d) : Sl K H σ (Γ.set i (.im d)) := ⟨fun j c h => by
    rcases set_get h with ⟨rfl, z, hlt⟩ | ⟨hij, h⟩
    · cases z
      exact ⟨v, hv, r⟩
    · obtain ⟨w, h1, h2⟩ := e.at_ j _ h (fun z => by cases z)
      exact ⟨w, h1, h2.im_rep.mono e.gr.i⟩, by rw [List.length_set]; exact e.len, e.tb.mono e.gr.i⟩
/-- C(l, ..), l a list of one's own -/
theorem dxo_op1 {t : Option Addr} {C : Addr} {fs : List (Str × Ch)} (F : List D → List (Str × Ch)) (i : Nat) (hi : Γ[i]? = some (.ow ds)) (h : ∀ us : List V, us.length = ds.length → DX K te (Γ.set i (.im (.lst (us.map D.op)))) (.oo t C (F (us.map D.op)))) (hl : ∀ G us, RepA K G us ds → LiftF K G (F (us.map D.op)) fs) : DXo K te Γ (.oo t C fs) := fun σ bs G H ⟨A, e⟩ Q q => by
  obtain ⟨l, us, h1, h2, h3, _⟩ := own_at e hi
  exact h us h3.len σ H H (Same.refl H) (sl_open e i h1 (.lst (LsX.of h2) (op_repA us))) Q fun v G' H' as g n => q v G H' as (Grow.side e.gr.i g.h) (lift_new e.gr.i n (hl G us h3))
/-- C(l[0], l[1]), l a list of two lists of one's own -/
theorem dxo_op2 {t : Option Addr} {C : Addr} {fs : List (Str × Ch)} (F : List D → List D → List (Str × Ch)) (i : Nat) (hi : Γ[i]? = some (.ol [.ow ds, .ow es])) (h : ∀ us ws : List V, us.length = ds.length → ws.length = es.length → DX K te (Γ.set i (.im (.lst [.lst (us.map D.op), .lst (ws.map D.op)]))) (.oo t C (F (us.map D.op) (ws.map D.op)))) (hl : ∀ G us ws, RepA K G us ds → RepA K G ws es → LiftF K G (F (us.map D.op) (ws.map D.op)) fs) : DXo K te Γ (.oo t C fs) := fun σ bs G H ⟨A, e⟩ Q q => by
  obtain ⟨v, h1, h2⟩ := e.at_ i _ hi (fun z => by cases z)
  generalize A i = as at h2
  cases h2 with
  | ol hv o =>
    cases o with
    | cons o1 o =>
      cases o with
      | cons o2 o =>
        cases o
        cases o1 with
        | @ow _ us _ a1 a2 =>
          cases o2 with
          | @ow _ ws _ b1 b2 =>
            exact h us ws a2.len b2.len σ H H (Same.refl H) (sl_open e i h1 (.lst (LsX.of hv) (.cons (.lst (LsX.of a1) (op_repA us)) (.cons (.lst (LsX.of b1) (op_repA ws)) .nil)))) Q fun v G' H' as g n => q v G H' as (Grow.side e.gr.i g.h) (lift_new e.gr.i n (hl G us ws a2 b2))
end
end DL

/-! DK: sorted by a lambda that looks into a captured list. -/
namespace DL
open PySem PySem.Spec PyProof.Rows L2
variable {K : PySem.W.Frag}
/-- the call of lambda x: y[x] -/
theorem lam_item {prog : Program} {w : World} {A : Around} {s : Shared} {f c' cN b : Addr} {q : Str} {params : Arguments} {scope : Scope} {clos : List (Str × Addr)} {pm ctv : Value} {x y : Str} {p1 p2 p3 : Pos} {its : Array Value} {i z : Int} {t u : Tok}
    (of : s.heap.get? f = some (PySem.W.kla_obj "<lambda>" q params (.Subscript (.Name y p1) (.Name x p2) p3) scope clos pm c' ctv))
    (hcd : s.heap.CodeRec (.ref c') q) (hlim : s.heap.NoLimit) (hdp : A.depth < recursionLimit)
    (hk : scope.kind = .function) (hco : scope.isCoroutine = false) (hgen : scope.isGenerator = false) (hnc : ∀ n ∈ scope.names, n.2 ≠ .cell) (hx : scope.names.lookup x = some .local) (hy : scope.names.lookup y = some .free)
    (hb : bindArgs (PySem.W.kla_fn "<lambda>" q params (.Subscript (.Name y p1) (.Name x p2) p3) scope clos pm (.ref c') ctv) ⟨[.int i t], []⟩ = pure [(x, .int i t)])
    (hcl : clos.lookup y = some cN) (hcell : s.heap.IsCell cN (some (.ref b))) (hl : s.heap.IsList b its) (h0 : 0 ≤ i) (hfit : i < 2 ^ 63) (he : its[i.toNat]? = some (.int z u))
    (hdx : (x == ("__debug__" : Str)) = false) (hdy : (y == ("__debug__" : Str)) = false) (hcy : (y == ("__classdict__" : Str)) = false) :
    wpAny (model prog w) A (call (.ref f) [.int i t]) (PySem.W.KeyPure (.int z) s) (fun _ _ => False) s := by
  refine wpAny_call ?_
  refine PySem.W.kla_callFunE hdp of rfl hco hgen rfl hcd ?_
  rw [hb]
  refine wpAny_pure (wpAny_newFunctionEnv hnc (fun n hn => by rw [List.mem_singleton.mp hn]; exact hx) (fun h₁ hns hsb => ⟨hlim.fresh _ hsb, ?_⟩) hk)
  show codeAny _ _ (.expr _ (PySem.W.envX q scope s.heap.objs.size f (.ref c') clos)) _ _
  have keep : ∀ b o, s.heap.get? b = some o → h₁.get? b = some o := fun b o e => hsb.extBut b o (Nat.ne_of_lt (Heap.lt_size e)) (Heap.get?_push_of_some _ e)
  refine PySem.W.kla_codeExpr ?_
  obtain ⟨oc, ho1, ho2⟩ := hcell
  have hl1 : h₁.IsList b its := by
    obtain ⟨ol, e1, e2⟩ := hl
    exact ⟨ol, keep _ _ e1, e2⟩
  refine wpAny_Subscript_Name (T := "list") slot_list_getitem.lookup (wpAny_Name (wpAny_loadName_free (c := cN) hk hy hcl ⟨oc, keep _ _ ho1, ho2⟩ ?_ hcy) hdy) (fun _ _ => rfl)
  have hlk : List.lookup x [(x, Value.int i t)].reverse = some (Value.int i t) := (lookup_cons x x (Value.int i t) []).trans (if_pos rfl)
  refine wpAny_Name (wpAny_loadName_local hk hx hns hlk ?_) hdx
  exact ⟨hl1.typeIs, wpAny_getItem_list hl1 h0 hfit he ⟨h₁, _, rfl, keep, .int z u⟩⟩
/-- the table takes in a code object of that name: what of the heap is kept -/
theorem same_tab {H : Hp} {P c' : Addr} {ps more : Array Value} (hP : H P = some (.tbl ps)) (nC : H c' = none) (hm : LamX.TabS H P qMed → LamX.TabS (upd (upd H P (.tbl (ps ++ more))) c' (LamX.CodeO c' qMed)) P qMed) :
    Same H (upd (upd H P (.tbl (ps ++ more))) c' (LamX.CodeO c' qMed)) := fun b o e => by
  have nb : b ≠ c' := ne_of_none e nC
  by_cases hb : b = P
  · rw [hb, hP] at e
    cases e
    rw [hb]
    exact ⟨⟨_, by rw [upd_ne (ne_of_none hP nC), upd_same]⟩, hm⟩
  · have e' : upd (upd H P (.tbl (ps ++ more))) c' (LamX.CodeO c' qMed) b = some o := by
      rw [upd_ne nb, upd_ne hb]
      exact e
    cases o with
    | tbl qs =>
      refine ⟨⟨_, e'⟩, fun t => ?_⟩
      obtain ⟨qs', h1, h2, h3⟩ := t
      rw [e] at h1
      cases h1
      refine ⟨qs, e', h2, fun pos cv hc => ?_⟩
      obtain ⟨c, e1, e2⟩ := h3 pos cv hc
      refine ⟨c, e1, ?_⟩
      rw [upd_ne (ne_of_none e2 nC), upd_ne fun z => by
        rw [z, hP] at e2
        exact LamX.codeO_ne _ (Option.some.inj e2).symm]
      exact e2
    | _ => exact e'
section
variable {X : Cx} {pins : List (Addr × Obj)} {σ : L2.St} {H : Hp} {s : Shared}
/-- the lambda is made, its name qMed -/
theorem lam_make3 {c P : Addr} {params : Arguments} {body : Expr} {scope : Scope} {pos : Pos} {E : Value → Shared → Prop} {Q : Value → Shared → Prop} (I : Inv X pins σ H s) (TB : LamX.TabB X.base X.mg c P) (hcode : X.env.code = .ref c) (hqn : X.env.qual ++ "<lambda>" = qMed)
    (hT : LamX.TabS H P qMed) (hdef : defaultsOf params X.env = ([], [])) (hfree : ∀ y ∈ scope.names, y.2 = .free → ∃ c, X.env.cells.lookup y.1 = some c)
    (h : ∀ (f c' : Addr) (pm ctv : Value) (H1 : Hp) (s' : Shared), Inv X pins σ H1 s' → Same H H1 → LamX.TabS H1 P qMed →
      s'.heap.get? f = some (PySem.W.kla_obj "<lambda>" qMed params body scope (cloFrom X.env.cells scope.names []) pm c' ctv) → s'.heap.CodeRec (.ref c') qMed → Q (.ref f) s') :
    wpAny (model X.prog X.w) X.A (eval (.Lambda params body scope pos) X.env) Q E s := by
  obtain ⟨ps, hP, ht, ha⟩ := id hT
  refine PySem.W.kla_eval hdef ?_
  have bP : s.heap.BuiltinsAt X.mg P := TB.bm.keeps I.bk
  have hP' : s.heap.get? P = some { cls := .none, data := .fields ps } := I.hok P _ hP
  have crec : ∀ (H1 : Hp) (s1 : Shared) (c' : Addr), Inv X pins σ H1 s1 → H1 c' = some (LamX.CodeO c' qMed) → s1.heap.CodeRec (.ref c') qMed := fun H1 s1 c' I1 e => by
    obtain ⟨⟨oc, vs, t, e1, e2, e3⟩, _, _⟩ := I1.hok c' _ e
    exact ⟨c', oc, vs, t, rfl, e1, e2, e3⟩
  cases hc : codeAmong pos ps.toList with
  | none =>
    refine PySem.W.kla_makeFunction (mg := X.mg) (c := c) (P := P) (ps := ps) (closure_ok hfree) I.ok.glob (I.mod.glob.keeps I.bk) hcode (TB.code.keeps I.bk) hP' ht hc TB.gP bP fun c' ctv h' tk hx hge hlt hrec htb => ?_
    rw [hqn] at hrec
    obtain ⟨c2, oc, vs, t, e2, hoc, hd, hv⟩ := id hrec
    cases e2
    have nC : H c' = none := I.hok.fresh hge
    have J := LamX.inv_table (t' := tk) (more := #[rawInt pos.line, rawInt pos.col, .ref c']) (q := qMed) (h' := h'.push (PySem.W.kla_obj "<lambda>" (X.env.qual ++ "<lambda>") params body scope (cloFrom X.env.cells scope.names []) ((X.mg "__name__").getD .none) c' ctv)) I hP
      (fun b o hb e => Heap.get?_push_of_some _ (hx b o hb e)) (Heap.get?_push_of_some _ htb) hge ⟨oc, vs, t, Heap.get?_push_of_some _ hoc, hd, hv⟩
    have eL : (ps ++ #[rawInt pos.line, rawInt pos.col, .ref c']).toList = ps.toList ++ [rawInt pos.line, rawInt pos.col, .ref c'] := by simp
    have T1 : LamX.TabS (upd (upd H P (.tbl (ps ++ #[rawInt pos.line, rawInt pos.col, .ref c']))) c' (LamX.CodeO c' qMed)) P qMed := by
      refine ⟨_, by rw [upd_ne (ne_of_none hP nC), upd_same], by rw [eL]; exact PySem.TriplesOk_snoc _ _ _ _ ht, fun p' cv hcv => ?_⟩
      rw [eL] at hcv
      rcases LamX.among_app _ ht hcv with z | z
      · obtain ⟨c0, e1, e2⟩ := ha p' cv z
        refine ⟨c0, e1, ?_⟩
        rw [upd_ne (ne_of_none e2 nC), upd_ne fun z => by
          rw [z, hP] at e2
          exact LamX.codeO_ne _ (Option.some.inj e2).symm]
        exact e2
      · exact ⟨c', z, upd_same⟩
    rw [hqn] at J
    have fin := h h'.objs.size c' ((X.mg "__name__").getD .none) ctv _ _ J (same_tab hP nC fun _ => T1) T1 (Heap.get?_push_size _ rfl) (crec _ _ _ J upd_same)
    rw [hqn]
    exact fin
  | some cv =>
    obtain ⟨c', e, hco⟩ := ha pos cv hc
    subst e
    refine PySem.W.kla_makeFunctionHit (mg := X.mg) (c := c) (P := P) (ps := ps) (closure_ok hfree) I.ok.glob (I.mod.glob.keeps I.bk) hcode (TB.code.keeps I.bk) hP' ht hc bP fun ctv h' tk hx hsz => ?_
    have J : Inv X pins σ H { s with heap := h'.push (PySem.W.kla_obj "<lambda>" (X.env.qual ++ "<lambda>") params body scope (cloFrom X.env.cells scope.names []) ((X.mg "__name__").getD .none) c' ctv), toks := tk } := I.kept fun b o e => Heap.get?_push_of_some _ (hx b o e)
    rw [hqn] at J
    have fin := h h'.objs.size c' ((X.mg "__name__").getD .none) ctv H _ J (Same.refl H) hT (Heap.get?_push_size _ rfl) (crec _ _ _ J hco)
    rw [hqn]
    exact fin
end
theorem each_ints : ∀ {ps : List Int} {its : List Value}, Vals (ps.map V.int) its → PySem.W.EachIs (fun (v : Value) (p : Int) => ∃ t, v = .int p t) its ps
  | [], its, h => by
    cases h
    exact .nil
  | p :: r, its, h => by
    cases h with
    | cons a b => exact .cons a (each_ints b)
theorem each_vals : ∀ {ps : List Int} {its : List Value}, PySem.W.EachIs (fun (v : Value) (p : Int) => ∃ t, v = .int p t) its ps → Vals (ps.map V.int) its
  | _, _, .nil => .nil
  | _, _, .cons a b => .cons a (each_vals b)
/-- the places by what stands there, equal ones in their turn -/
def byKey (ns ps : List Int) : List Int := ps.mergeSort fun x y => decide (ns.getD x.toNat 0 ≤ ns.getD y.toNat 0)
def tSortK (K : PySem.W.Frag) (i : Nat) (ta : TA) : TE := fun σ H Q => ta σ H fun vs H1 => ∃ (a b : Addr) (ps ns : List Int), vs = [.ref a] ∧ LsX K H1 a (ps.map V.int) ∧ σ[i]? = some (some (.ref b)) ∧ LsX K H1 b (ns.map V.int) ∧ (∀ p ∈ ps, 0 ≤ p ∧ p < ns.length) ∧ ns.length ≤ 1000 ∧ TabsK K H1 ∧
  ∀ H2 l, Same H1 H2 → H2 l = none → Q (.ref l) (upd H2 l (.lst ((byKey ns ps).map V.int)))
/-- what the lambda x: y[x] asks of its names -/
def lamLB (sc scope : Scope) (x y : Str) : Bool :=
  decide (scope.kind = .function) && !scope.isCoroutine && !scope.isGenerator && (scope.names.all fun n => !decide (n.2 = .cell)) && decide (scope.names.lookup x = some .local) && decide (scope.names.lookup y = some .free) && decide (sc.names.lookup y = some .cell) &&
    (scope.names.all fun n => !decide (n.2 = .free) || decide (sc.names.lookup n.1 = some .cell)) && !(x == ("__debug__" : Str)) && !(y == ("__debug__" : Str)) && !(y == ("__classdict__" : Str))
section
variable {X : Cx}
theorem pe_sortLam {i : Nat} {e : Expr} {ta : TA} {c P : Addr} {params : Arguments} {scope : Scope} {x y : Str} {p1 p2 p3 p kpos lpos pos : Pos} (hg : Gl X "sorted") (hm : X.mg "sorted" = none) (ha : PA X [e] ta) (hN : X.N[i]? = some y)
    (ht : PySem.W.tabIn X.K "median" = some (c, P)) (TB : LamX.TabB X.base X.mg c P) (hcode : X.env.code = .ref c) (hqn : X.env.qual ++ "<lambda>" = qMed) (hr : Room 1 X.A) (hL : lamLB X.env.scope scope x y = true) (hdef : defaultsOf params X.env = ([], []))
    (hbind : ∀ (q : Str) (cl : List (Str × Addr)) (pm cv ctv v : Value), bindArgs (PySem.W.kla_fn "<lambda>" q params (.Subscript (.Name y p1) (.Name x p2) p3) scope cl pm cv ctv) ⟨[v], []⟩ = pure [(x, v)])
    (he : backTo pos (starEach [e] X.env) = (false, eval e X.env) :: backTo pos (starEach [] X.env) := by rfl) (hpl : (backTo pos (starEach [e] X.env)).any (·.1) = false := by rfl) :
    PE X (.Call (.Name "sorted" p) [e] [⟨some "key", .Lambda params (.Subscript (.Name y p1) (.Name x p2) p3) scope lpos, kpos⟩] pos) (tSortK X.K i ta) := by
  unfold lamLB at hL
  simp only [Bool.and_eq_true, Bool.or_eq_true, Bool.not_eq_true', decide_eq_true_eq, decide_eq_false_iff_not, List.all_eq_true] at hL
  obtain ⟨⟨⟨⟨⟨⟨⟨⟨⟨⟨l1, l2⟩, l3⟩, l4⟩, l5⟩, l6⟩, l7⟩, l8⟩, l9⟩, l10⟩, l11⟩ := hL
  have hfree : ∀ (ok : X.Ok), ∀ n ∈ scope.names, n.2 = .free → ∃ c, X.env.cells.lookup n.1 = some c := fun ok n hn hf => ok.has _ (.inl ((l8 n hn).resolve_left fun z => z hf))
  refine ⟨fun pins s σ H Q I h => ?_⟩
  refine wpAny_Call_Name_kw (ld_blt (u := .builtin "sorted") I hg hm (by decide +kernel) ?_)
  refine PyProof.Rows.callWith_kw (thn (ha.run pos pins s σ H _ I h) fun us s1 ⟨vs, H1, I1, r1, a, b, ps, ns, e1, ha1, hb1, hb2, hps, hlen, tb, q⟩ => ?_) he hpl (by rfl) (by rfl)
  subst e1
  rw [Vals.ref1 r1]
  have hfr := hfree I1.ok
  show wpAny _ _ (evalAll ((do let v ← eval (.Lambda params (.Subscript (.Name y p1) (.Name x p2) p3) scope lpos) X.env; standAt pos; pure v) :: [])) _ _ s1
  refine wpAny_evalAll_cons (wpAny_bind (lam_make3 I1 TB hcode hqn (tb c P ht) hdef hfr fun f c' pm ctv H2 s2 I2 s12 T2 hf hcr => wpAny_bind (wpAny_standAt (wpAny_pure (wpAny_evalAll_nil ?_)))))
  obtain ⟨itsA, rA, lA, zA⟩ := I2.list (ls_same s12 ha1).sq
  obtain ⟨itsB, rB, lB, zB⟩ := I2.list (ls_same s12 hb2).sq
  obtain ⟨m, hn, hloc⟩ := I2.loc
  obtain ⟨u, ru, hu⟩ := hloc i y (.ref b) hN hb1 (.inr (.inl l7))
  have eu : u = Value.ref b := ru
  subst eu
  obtain ⟨cN, hcN, hcell⟩ : ∃ cN, X.env.cells.lookup y = some cN ∧ s2.heap.IsCell cN (some (.ref b)) := by
    rcases hu with ⟨k', _⟩ | ⟨_, c3, e', z⟩
    · have k2 : X.env.scope.names.lookup y = some .local := k'
      rw [l7] at k2
      cases k2
    · exact ⟨c3, e', z⟩
  have hcl : (cloFrom X.env.cells scope.names []).lookup y = some cN := by
    have hy : (y, NameKind.free) ∈ scope.names := PySem.mem_of_lookup l6
    obtain ⟨c4, h4⟩ := mem_lookup (cloFrom_has (cells := X.env.cells) (acc := []) hy)
    rcases cloFrom_mem (PySem.mem_of_lookup h4) with hm' | ⟨h1, h2⟩
    · cases hm'
    · rw [h4, h2, hcN]
      rfl
  have hlenA := rA.length
  have hlenB := rB.length
  rw [List.length_map] at hlenA hlenB
  show wpAny _ _ (call (.builtin "sorted") [Value.ref a] [(Str.ofString "key", Value.ref f)]) _ _ _
  refine PySem.W.sorted_key_data (β := Int) (bs := ps) (vs := itsA) (R := fun v p => ∃ t, v = .int p t) (b := false) (fun p => .int (ns.getD p.toNat 0)) lA.isList (each_ints rA) (PySem.W.AllAlike.of fun _ _ => rfl) (PySem.W.Sortable.others fun _ => ⟨(fun z => by cases z), fun _ z => by cases z⟩) (by rw [List.length_map] at zA; exact zA) (fun x hx => ?_) (PyProof.Rows.ksk_s1 _ _) (fun x => PyProof.Rows.ksk_l1 _ _) (fun x => PyProof.Rows.ksk_t1 _ _) (fun v p hv hp h tk kp => ?_) (fun out c4 h' tk kp hnew hat hlen hout => ?_)
  · have := hr.un
    show X.A.units + 2 + 0 < cLine
    omega
  · obtain ⟨t, rfl⟩ := hv
    obtain ⟨p0, p1⟩ := hps p hp
    have hj : p.toNat < ns.length := by omega
    have hget : (ns.map V.int)[p.toNat]? = some (V.int (ns.getD p.toNat 0)) := by
      rw [List.getElem?_map, List.getD_eq_getElem?_getD, List.getElem?_eq_getElem hj]
      rfl
    obtain ⟨u, hu1, t2, hu2⟩ := rB.get hget
    subst hu2
    obtain ⟨cc, oc, vs, t3, e0, e2, e3, e4⟩ := hcr
    obtain ⟨ol, o1, o2⟩ := lB.isList
    obtain ⟨oz, z1, z2⟩ := hcell
    cases e0
    refine lam_item (s := { s2 with heap := h, toks := tk }) (kp _ _ hf) ⟨_, oc, vs, t3, rfl, kp _ _ e2, e3, e4⟩ ?_ ?_ l1 l2 l3 (fun n hn => l4 n hn) l5 l6 (hbind _ _ _ _ _ _) hcl ⟨oz, kp _ _ z1, z2⟩ ⟨ol, kp _ _ o1, o2⟩ p0 (by omega) (by simpa using hu1) l9 l10 l11
    · exact I2.nolimit.keeps kp
    · exact hr.depth
  · rw [PySem.W.dataLe_int] at hout
    exact ⟨.ref _, upd H2 (s2.heap.objs.size + 1) (.lst ((byKey ns ps).map V.int)), I2.laid kp (Nat.le_succ _) ⟨by
      rw [List.length_map]
      unfold byKey
      rw [List.length_mergeSort]
      rw [List.length_map] at zA
      exact zA, out, c4, each_vals hout, hat⟩, rfl, q H2 _ s12 (I2.hok.fresh (Nat.le_succ _))⟩
end
theorem de_sortK {ta : TA} {Γ : List B} {ps ns : List Int} {i : Nat} (h : DAr K ta Γ [.lst (dI ps)]) (hi : Γ[i]? = some (.im (.lst (dI ns)))) (hp : ∀ p ∈ ps, 0 ≤ p ∧ p < ns.length) (hl : ns.length ≤ 1000) : DE K (tSortK K i ta) Γ (.lst (dI (byKey ns ps))) := fun σ G H e s Q q =>
  h σ G H e s _ fun vs G1 H1 g1 r1 => by
    cases r1 with
    | cons a b =>
      cases b
      obtain ⟨v, h1, h2⟩ := (s.mono g1.g).im i _ hi
      cases a with
      | @lst a ws _ hs ra =>
        cases h2 with
        | @lst b us _ ht rb =>
          have e1 := RepA.dI_inv ra
          have e2 := RepA.dI_inv rb
          subst e1
          subst e2
          refine ⟨a, b, ps, ns, rfl, ls_same g1.i hs, h1, ls_same g1.i ht, hp, hl, (s.tb.mono g1.g).mono g1.i, fun H2 l s2 hl => ?_⟩
          have g2 : Grow G1 H1 G1 H2 := Grow.side g1.i s2
          exact q (.ref l) _ _ ((g1.trans g2).trans (Grow.new g2.i hl)) (.lst (LsX.of upd_same) (RepA.dI_mk _ _))
theorem tabIn_of {K : PySem.W.Frag} {x : Str} {f c P : Addr} {oc e : Value} {od dd : Option Addr} {fd : FuncData} {osl sl : Array (Option Value)} {vs : Array Value} (h1 : PySem.W.nsIn K mainGlobals x = some (some (.ref f))) (h2 : K.lookup f = some ⟨oc, od, .func fd, osl⟩) (h3 : fd.code = .ref c) (h4 : K.lookup c = some ⟨e, dd, .fields vs, sl⟩) (h5 : vs[11]? = some (.ref P)) : PySem.W.tabIn K x = some (c, P) := by
  unfold PySem.W.tabIn
  rw [h1]
  simp only [h2, h3, h4, h5]
theorem qn_med : (("median" : Str) ++ (".<locals>." : Str)) ++ ("<lambda>" : Str) = qMed := by decide +kernel
/-- a def that makes a lambda: its code object is told -/
theorem pure_okC {P : Program} {w : World} {K : PySem.W.Frag} {mg : Str → Option Value} {base : Heap} {x qual : Str} {st : Stmt} {f c PT : Addr} {fd : FuncData} {N ps : List Str} {k n : Nat} {R : List D → D → Prop} (F : Fun K x qual st f fd) (hg : PySem.W.nsIn K mainGlobals x = some (some (.ref f))) (ht : PySem.W.tabIn K x = some (c, PT)) (S : FnScope N ps (defScope st)) (hn : ps.length = n)
    (hb : ∀ (A : Around) (outer : List Env) (s : Shared) (H : Hp) (E : XK), Room k (A.deeper (envOfC qual (defScope st) s.heap.objs.size f (.ref c))) →
      ∃ t, PSs (cxOf CX0 P w K mg base N qual (defScope st) f (.ref c) A outer s H E).nox (defBody st) t ∧ ∀ ds d, R ds d → DS K t (startB N.length ds) { nx := fun _ => d = .non, rt := fun r => r = d }) :
    FnOk P w K mg base CX0 (k + 1) f fd ps (spR K n R) := by
  obtain ⟨oc, od, kV, doc, pm, an, cdv, ct, osl, rfl, lk, hcd⟩ := F.ex
  have hc : cdv = .ref c := by
    unfold PySem.W.tabIn at ht
    rw [hg] at ht
    simp only [lk] at ht
    split at ht
    · split at ht
      · split at ht
        · cases ht
          rfl
        · cases ht
      · cases ht
    · cases ht
  subst hc
  refine fn_of lk hcd S (fun vs H Q E h => ?_) fun A outer s H vs Q E hr h => ?_
  · obtain ⟨G, ds, d, h1, _, _, r, _⟩ := h
    rw [r.len, h1, hn]
  · obtain ⟨t, h1, h2⟩ := hb A outer s H E hr
    exact ⟨t, h1.nox, ds_run h2 h⟩
end DL

/-! DN: fractions as Rat, sizes of fractions, sums. -/
namespace DL
variable {K : PySem.W.Frag}
def qd (q : Rat) : D := .tup [.int q.num, .int (q.den : Int)]
/-- a / b, b above 0 -/
def frac (a b : Int) : Rat := mkRat a b.toNat
theorem frac_num {a b : Int} (h : 0 < b) : (frac a b).num = a / (Int.gcd a b : Int) := by
  unfold frac
  rw [← Rat.normalize_eq_mkRat (show b.toNat ≠ 0 by omega), Rat.normalize_eq]
  show a / ((a.natAbs.gcd b.toNat : Nat) : Int) = _
  rw [show b.toNat = b.natAbs by omega]
  rfl
theorem frac_den {a b : Int} (h : 0 < b) : ((frac a b).den : Int) = b / (Int.gcd a b : Int) := by
  unfold frac
  rw [← Rat.normalize_eq_mkRat (show b.toNat ≠ 0 by omega), Rat.normalize_eq]
  show ((b.toNat / a.natAbs.gcd b.toNat : Nat) : Int) = _
  rw [Int.natCast_ediv, show b.toNat = b.natAbs by omega, Int.natAbs_of_nonneg (by omega)]
  rfl
theorem frac_eq {a b : Int} (h : 0 < b) : frac a b = (a : Rat) / (b : Rat) := by
  unfold frac
  rw [Rat.mkRat_eq_div]
  congr 1
  rw [show (b : Rat) = ((b.toNat : Int) : Rat) by rw [Int.toNat_of_nonneg (by omega)]]
  rfl
theorem frac_add (p q : Rat) : frac (p.num * q.den + q.num * p.den) (p.den * q.den) = p + q := by
  unfold frac
  rw [Rat.add_def']
  rfl
theorem frac_plus {a b c d : Int} (hb : 0 < b) (hd : 0 < d) : frac (a * d + c * b) (b * d) = frac a b + frac c d := by
  unfold frac
  rw [Rat.mkRat_add_mkRat _ _ (by omega) (by omega)]
  congr 1
  · rw [Int.toNat_of_nonneg (by omega), Int.toNat_of_nonneg (by omega)]
  · rw [Int.toNat_mul (by omega) (by omega)]
theorem frac_self (q : Rat) : frac q.num q.den = q := by
  unfold frac
  show mkRat q.num q.den = q
  exact Rat.mkRat_self q
theorem frac_int (n : Int) : frac n 1 = (n : Rat) := by
  rw [frac_eq (by decide)]
  grind
theorem gcd_pos {a b : Int} (h : 0 < b) : 0 < (Int.gcd a b : Int) := by
  have : 0 < Int.gcd a b := Int.gcd_pos_of_ne_zero_right a (by omega)
  omega
theorem gcd_le {a b : Int} (h : 0 < b) : (Int.gcd a b : Int) ≤ b := Int.le_of_dvd h (Int.gcd_dvd_right a b)
def QFit (n m : Nat) (q : Rat) : Prop := Fit n q.num ∧ Fit m (q.den : Int)
theorem QFit.mono {n m n' m' : Nat} {q : Rat} (h : QFit n m q) (h1 : n ≤ n') (h2 : m ≤ m') : QFit n' m' q := ⟨h.1.mono h1, h.2.mono h2⟩
theorem QFit.frac {n m : Nat} {a b : Int} (h0 : 0 < b) (h1 : Fit n a) (h2 : Fit m b) : QFit n m (frac a b) :=
  ⟨by rw [frac_num h0]; exact h1.div (gcd_pos h0), by rw [frac_den h0]; exact h2.div (gcd_pos h0)⟩
theorem Fit.max {m n k : Nat} {i j : Int} (h : Fit m i) (h2 : Fit n j) (a : m ≤ k) (b : n ≤ k) : Fit (k + 1) (i + j) := (h.mono a).add (h2.mono b)
theorem QFit.add {n m n' m' k : Nat} {p q : Rat} (h : QFit n m p) (h2 : QFit n' m' q) (a : n + m' ≤ k) (b : n' + m ≤ k) : QFit (k + 1) (m + m') (p + q) := by
  rw [← frac_add]
  exact QFit.frac (by have := p.den_pos; have := q.den_pos; exact Int.mul_pos (by omega) (by omega)) ((h.1.mul h2.2).max (h2.1.mul h.2) a b) (h.2.mul h2.2)
theorem QFit.neg {n m : Nat} {p : Rat} (h : QFit n m p) : QFit n m (-p) := ⟨by rw [Rat.neg_num]; exact h.1.neg, h.2⟩
theorem QFit.zero : QFit 0 1 0 := ⟨⟨show (0 : Int).natAbs < 2 ^ 0 by decide⟩, ⟨show ((1 : Nat) : Int).natAbs < 2 ^ 1 by decide⟩⟩
theorem QFit.int {n : Nat} {i : Int} (h : Fit n i) : QFit n 1 (i : Rat) := ⟨by rw [Rat.num_intCast]; exact h, ⟨show ((1 : Nat) : Int).natAbs < 2 ^ 1 by decide⟩⟩
theorem den_pos (q : Rat) : (0 : Int) < (q.den : Int) := by have := q.den_pos; omega
/-- f 0 + .. + f (n - 1) -/
def sumTo (f : Nat → Rat) : Nat → Rat
  | 0 => 0
  | n + 1 => sumTo f n + f n
theorem sumTo_congr {f g : Nat → Rat} : ∀ {n : Nat}, (∀ i, i < n → f i = g i) → sumTo f n = sumTo g n
  | 0, _ => rfl
  | n + 1, h => by
    show sumTo f n + f n = sumTo g n + g n
    rw [sumTo_congr fun i hi => h i (by omega), h n (by omega)]
theorem sumTo_fit {f : Nat → Rat} {a m : Nat} : ∀ n : Nat, (∀ i, i < n → QFit a m (f i)) → QFit (a + n * (m + 2)) (m * n + 1) (sumTo f n) := fun n => by
  induction n with
  | zero => exact fun _ => QFit.zero.mono (Nat.zero_le _) (by omega)
  | succ n ih =>
    intro h
    have q := (ih fun i hi => h i (by omega)).add (k := a + n * (m + 2) + m + 1) (h n (by omega)) (by omega) (by
      have : m * n ≤ n * (m + 2) := by
        rw [Nat.mul_comm]
        exact Nat.mul_le_mul_left n (by omega)
      omega)
    refine q.mono (by rw [Nat.succ_mul]; omega) (by rw [Nat.mul_succ]; omega)
theorem numbered_get {α : Type} {xs : List α} {f : α → D} {i : Nat} {d : D} (z : α) (h : (numbered 0 (xs.map f))[i]? = some d) : i < xs.length ∧ d = .tup [.int (i : Int), f (xs.getD i z)] := by
  rw [numbered_at, List.getElem?_map] at h
  by_cases hi : i < xs.length
  · rw [List.getElem?_eq_getElem hi] at h
    refine ⟨hi, ?_⟩
    rw [List.getD_eq_getElem?_getD, List.getElem?_eq_getElem hi]
    cases h
    rw [Nat.zero_add]
    rfl
  · rw [List.getElem?_eq_none (by omega)] at h
    cases h
theorem map_get {α : Type} {xs : List α} {f : α → D} {i : Nat} {d : D} (z : α) (h : (xs.map f)[i]? = some d) : i < xs.length ∧ d = f (xs.getD i z) := by
  rw [List.getElem?_map] at h
  by_cases hi : i < xs.length
  · rw [List.getElem?_eq_getElem hi] at h
    refine ⟨hi, ?_⟩
    rw [List.getD_eq_getElem?_getD, List.getElem?_eq_getElem hi]
    cases h
    rfl
  · rw [List.getElem?_eq_none (by omega)] at h
    cases h
theorem dp_qd (n : Nat) (q : Rat) : deep (n + 1) (qd q) = true := by
  show ([D.int q.num, D.int (q.den : Int)].all (deep n)) = true
  cases n <;> rfl
theorem deep_map {α : Type} {f : α → D} (n : Nat) (xs : List α) (h : ∀ x, deep n (f x) = true) : deep (n + 1) (.lst (xs.map f)) = true := by
  show (xs.map f).all (deep n) = true
  rw [List.all_map]
  exact List.all_eq_true.mpr fun x _ => h x
theorem deep_dI2 (n : Nat) (xs : List (List Int)) : deep (n + 2) (.lst (xs.map fun a => D.lst (dI a))) = true := deep_map (n + 1) xs fun a => deep_dI n a
/-! ## written powers, sorting -/
def E30 : Int := 1000000000000000000000000000000
def E9 : Int := 1000000000
open PySem PySem.Spec PyProof.Rows L2 in
theorem r2_p30 : R2D K (rI CPow fun i j => .int (i ^ j.toNat)) (.int 10) (.int 30) (.int E30) := by
  have e : (10 : Int) ^ (30 : Int).toNat = E30 := by decide +kernel
  rw [← e]
  exact r2_pow ⟨by decide, by decide, by decide⟩
open PySem PySem.Spec PyProof.Rows L2 in
theorem r2_p9 : R2D K (rI CPow fun i j => .int (i ^ j.toNat)) (.int 10) (.int 9) (.int E9) := by
  have e : (10 : Int) ^ (9 : Int).toNat = E9 := by decide +kernel
  rw [← e]
  exact r2_pow ⟨by decide, by decide, by decide⟩
def srt (ns : List Int) : List Int := ns.mergeSort fun a b => decide (a ≤ b)
theorem srt_perm (ns : List Int) : (srt ns).Perm ns := List.mergeSort_perm _ _
theorem srt_up (ns : List Int) : (srt ns).Pairwise (· ≤ ·) := by
  have h := List.pairwise_mergeSort (le := fun a b : Int => decide (a ≤ b)) (fun a b c h1 h2 => decide_eq_true (Int.le_trans (of_decide_eq_true h1) (of_decide_eq_true h2))) (fun a b => by
    rcases Int.le_total a b with h | h
    · rw [decide_eq_true h]
      rfl
    · rw [decide_eq_true h]
      simp) ns
  exact h.imp fun h => of_decide_eq_true h
theorem srt_len (ns : List Int) : (srt ns).length = ns.length := (srt_perm ns).length_eq
theorem srt_mem {ns : List Int} {x : Int} : x ∈ srt ns ↔ x ∈ ns := (srt_perm ns).mem_iff
theorem rc_srt {K : PySem.W.Frag} {ns : List Int} : RCD K (L2.rSortedI K) [.lst (dI ns)] (.lst (dI (srt ns))) := rc_sorted (srt_perm ns) (srt_up ns)
end DL

/-! DZ: the end of a law's proof. -/
namespace DL
open PySem PySem.Spec PyProof.Rows L2
theorem fit_bits {z : Int} (b : Builtin.Int.intBits z ≤ 1048576) : Fit 1048577 z := ⟨by
  unfold Builtin.Int.intBits at b
  split at b
  · rename_i h0
    have : z = 0 := by simpa using h0
    rw [this]
    exact Nat.pow_pos (by decide)
  · exact Nat.lt_of_lt_of_le Nat.lt_log2_self (Nat.pow_le_pow_right (by decide) (by omega))⟩
/-- the end, where the table of median is told -/
theorem walk_ofL {l : PySem.W.OpenLaw} {n k : Nat} {q : Program} {loose : List Str} {XP : (Str → Option Value) → Heap → Prop} {YP : World → Heap → Prop} {d : DefRec} {K : Params → PySem.W.Frag} {CX : World → CXT} {sp : PySem.W.Frag → Sp} {x : Str}
    (hn : l.most = some n) (hn2 : n ≤ sizeLine) (hdf : d.params.defaults = []) (hr : Room k callerA)
    (hq : ((recsOf q).find? fun e => e.name == ("median" : Str)).isSome = true)
    (hY : ∀ (w : World) (h : Heap), YP w h → (K w.params).In h)
    (F : ∀ (w : World) (mg : Str → Option Value) (fa : Addr) (h : Heap), (K w.params).In h → h.Ns mainGlobals mg → mg d.name = some (.ref fa) →
      ∃ (fd : FuncData) (c P : Addr), PySem.W.tabIn (K w.params) "median" = some (c, P) ∧ (K w.params).lookup P = none ∧ (∀ (s : Shared) (u : Value), BindsTo s fd ⟨[u], []⟩ [(x, u)]) ∧
        ∀ base : Heap, (K w.params).In base → base.Ns mainGlobals mg → LamX.TabB base mg c P → FnOk l.prog w (K w.params) mg base (CX w) k fa fd [x] (sp (K w.params)))
    (hsp : ∀ (K : PySem.W.Frag) (H : Hp) (a : Addr) (ns : List Int), ns.length ≤ n → (∀ z ∈ ns, Fit 1048577 z) → TabsK K H → LsX K H a (ns.map V.int) → sp K [.ref a] H (fun v _ => v = .bl true) fun _ _ _ => False)
    (hCX : ∀ (w : World) (H : Hp) (s : Shared) (e : Value) (s' : Shared), CX w [] H s (fun _ _ _ => False) e s' → False) :
    PySem.W.WalkO q loose XP YP l.row.toRowW d [] (fun f vs => PySem.call f vs) := by
  refine Att.attach_callB hn hdf fun w s0 s1 mg mb fa o pm cd doc a vs ns G Y ho hd hcd hmg hobj hints hlen hbits hg => ?_
  have KX := hY w _ Y
  obtain ⟨fd, c, P, ht, nP, hb, hF⟩ := F w mg fa _ KX G.T.g hmg
  obtain ⟨dM, hM⟩ := Option.isSome_iff_exists.mp hq
  obtain ⟨hC, hT⟩ := PySem.W.tab_of G.T KX hM ht
  refine LamX.law_callTs (cs := [(c, P)]) KX G.T.g G.T.b G.T.builtins G.T.nolimit hg (fun p hp => ?_) (fun p hp => ?_) (fun p hp => ?_) G.T.bmain hobj hints (Nat.le_trans hlen hn2) hr
    (fun base h1 h2 h3 => hF base h1 h2 (h3 (c, P) List.mem_cons_self)) hb (fun H hH hS => hsp _ H a ns hlen (fun z hz => fit_bits (hbits z hz)) (fun c' P' h' => ?_) ?_) fun H e s' => hCX w H s1 e s'
  · rw [List.mem_singleton.mp hp]
    exact hT
  · rw [List.mem_singleton.mp hp]
    exact nP
  · rw [List.mem_singleton.mp hp]
    exact hC
  · rw [ht] at h'
    cases h'
    exact LamX.TabS.nil (hH _ List.mem_cons_self)
  · rcases hS with hS | ⟨o, its, m, h1, h2, h3, h4, h5, h6⟩
    · exact .inl hS
    · have e := KX a o h1
      rw [hobj] at e
      cases e
      cases h4
      exact .inr ⟨_, _, h1, h5, h6⟩
theorem goes_ofL {R : List D → D → Prop} (h : ∀ ns : List Int, ns.length ≤ 63 → (∀ z ∈ ns, Fit 1048577 z) → R [.lst (dI ns)] (.bl true)) (K : PySem.W.Frag) (H : Hp) (a : Addr) (ns : List Int) (hl : ns.length ≤ 63) (hf : ∀ z ∈ ns, Fit 1048577 z)
    (tb : TabsK K H) (hS : LsX K H a (ns.map V.int)) : spR K 1 R [.ref a] H (fun v _ => v = .bl true) fun _ _ _ => False :=
  ⟨H, [.lst (dI ns)], .bl true, rfl, Same.refl H, tb, .cons (.lst hS (RepA.dI_mk H ns)) .nil, h ns hl hf, fun v G' H' _ r => by
    cases r
    rfl⟩
end DL

namespace U
open PySem PySem.Spec PyProof.Rows L2 DL
/-! ## the text -/
def topS (i : Nat) : Stmt := PySem.Challenge.pw_uprow_k07_answers_by_hand.main.body.getD i (.Pass ⟨0, 0, 0, 0⟩)
abbrev s_is_number : Stmt := topS 5
abbrev N_is_number : List Str := ["thing"]
theorem sc_is_number : FnScope N_is_number ["thing"] (defScope s_is_number) := ⟨rfl, rfl, rfl, by decide +kernel, rfl, by decide +kernel, by decide +kernel⟩
abbrev s_common : Stmt := topS 6
abbrev N_common : List Str := ["one", "other"]
theorem sc_common : FnScope N_common ["one", "other"] (defScope s_common) := ⟨rfl, rfl, rfl, by decide +kernel, rfl, by decide +kernel, by decide +kernel⟩
abbrev s_lowest : Stmt := topS 7
abbrev N_lowest : List Str := ["above", "below", "far"]
theorem sc_lowest : FnScope N_lowest ["above", "below"] (defScope s_lowest) := ⟨rfl, rfl, rfl, by decide +kernel, rfl, by decide +kernel, by decide +kernel⟩
abbrev s_plus : Stmt := topS 8
abbrev N_plus : List Str := ["one", "other"]
theorem sc_plus : FnScope N_plus ["one", "other"] (defScope s_plus) := ⟨rfl, rfl, rfl, by decide +kernel, rfl, by decide +kernel, by decide +kernel⟩
abbrev s_lack : Stmt := topS 9
abbrev N_lack : List Str := ["number", "fraction", "weight"]
theorem sc_lack : FnScope N_lack ["number", "fraction", "weight"] (defScope s_lack) := ⟨rfl, rfl, rfl, by decide +kernel, rfl, by decide +kernel, by decide +kernel⟩
abbrev s_less : Stmt := topS 10
abbrev N_less : List Str := ["one", "other"]
theorem sc_less : FnScope N_less ["one", "other"] (defScope s_less) := ⟨rfl, rfl, rfl, by decide +kernel, rfl, by decide +kernel, by decide +kernel⟩
abbrev s_are_numbers : Stmt := topS 12
abbrev N_are_numbers : List Str := ["thing", "one"]
theorem sc_are_numbers : FnScope N_are_numbers ["thing"] (defScope s_are_numbers) := ⟨rfl, rfl, rfl, by decide +kernel, rfl, by decide +kernel, by decide +kernel⟩
abbrev s_check_numbers : Stmt := topS 13
abbrev N_check_numbers : List Str := ["numbers"]
theorem sc_check_numbers : FnScope N_check_numbers ["numbers"] (defScope s_check_numbers) := ⟨rfl, rfl, rfl, by decide +kernel, rfl, by decide +kernel, by decide +kernel⟩
abbrev s_check_weights : Stmt := topS 14
abbrev N_check_weights : List Str := ["numbers", "weights", "weight"]
theorem sc_check_weights : FnScope N_check_weights ["numbers", "weights"] (defScope s_check_weights) := ⟨rfl, rfl, rfl, by decide +kernel, rfl, by decide +kernel, by decide +kernel⟩
abbrev s_greatest_of : Stmt := topS 15
abbrev N_greatest_of : List Str := ["numbers", "row", "at"]
theorem sc_greatest_of : FnScope N_greatest_of ["numbers", "row"] (defScope s_greatest_of) := ⟨rfl, rfl, rfl, by decide +kernel, rfl, by decide +kernel, by decide +kernel⟩
abbrev s_sum_of : Stmt := topS 16
abbrev N_sum_of : List Str := ["numbers", "row", "weights", "at"]
theorem sc_sum_of : FnScope N_sum_of ["numbers", "row", "weights"] (defScope s_sum_of) := ⟨rfl, rfl, rfl, by decide +kernel, rfl, by decide +kernel, by decide +kernel⟩
abbrev s_rises : Stmt := topS 19
abbrev N_rises : List Str := ["row", "at"]
theorem sc_rises : FnScope N_rises ["row"] (defScope s_rises) := ⟨rfl, rfl, rfl, by decide +kernel, rfl, by decide +kernel, by decide +kernel⟩
abbrev s_Evened___init__ : Stmt := inClass (topS 20) 0
abbrev N_Evened___init__ : List Str := ["self", "row", "first", "second"]
theorem sc_Evened___init__ : FnScope N_Evened___init__ ["self", "row", "first", "second"] (defScope s_Evened___init__) := ⟨rfl, rfl, rfl, by decide +kernel, rfl, by decide +kernel, by decide +kernel⟩
abbrev s_Evened_shows : Stmt := inClass (topS 20) 1
abbrev N_Evened_shows : List Str := ["self", "numbers"]
theorem sc_Evened_shows : FnScope N_Evened_shows ["self", "numbers"] (defScope s_Evened_shows) := ⟨rfl, rfl, rfl, by decide +kernel, rfl, by decide +kernel, by decide +kernel⟩
abbrev s_from_nought : Stmt := topS 21
abbrev N_from_nought : List Str := ["pulls", "total", "pull"]
theorem sc_from_nought : FnScope N_from_nought ["pulls"] (defScope s_from_nought) := ⟨rfl, rfl, rfl, by decide +kernel, rfl, by decide +kernel, by decide +kernel⟩
abbrev s_Summed___init__ : Stmt := inClass (topS 22) 0
abbrev N_Summed___init__ : List Str := ["self", "row", "pulls"]
theorem sc_Summed___init__ : FnScope N_Summed___init__ ["self", "row", "pulls"] (defScope s_Summed___init__) := ⟨rfl, rfl, rfl, by decide +kernel, rfl, by decide +kernel, by decide +kernel⟩
abbrev s_Summed_shows : Stmt := inClass (topS 22) 1
abbrev N_Summed_shows : List Str := ["self", "numbers", "weights", "many", "told", "at"]
theorem sc_Summed_shows : FnScope N_Summed_shows ["self", "numbers", "weights"] (defScope s_Summed_shows) := ⟨rfl, rfl, rfl, by decide +kernel, rfl, by decide +kernel, by decide +kernel⟩
abbrev s_Squared___init__ : Stmt := inClass (topS 23) 0
abbrev N_Squared___init__ : List Str := ["self", "row"]
theorem sc_Squared___init__ : FnScope N_Squared___init__ ["self", "row"] (defScope s_Squared___init__) := ⟨rfl, rfl, rfl, by decide +kernel, rfl, by decide +kernel, by decide +kernel⟩
abbrev s_Squared_shows : Stmt := inClass (topS 23) 1
abbrev N_Squared_shows : List Str := ["self", "numbers", "weights", "total", "at"]
theorem sc_Squared_shows : FnScope N_Squared_shows ["self", "numbers", "weights"] (defScope s_Squared_shows) := ⟨rfl, rfl, rfl, by decide +kernel, rfl, by decide +kernel, by decide +kernel⟩
abbrev s_highest_so_far : Stmt := topS 24
abbrev N_highest_so_far : List Str := ["numbers", "found", "number"]
theorem sc_highest_so_far : FnScope N_highest_so_far ["numbers"] (defScope s_highest_so_far) := ⟨rfl, rfl, rfl, by decide +kernel, rfl, by decide +kernel, by decide +kernel⟩
abbrev s_lowest_from : Stmt := topS 25
abbrev N_lowest_from : List Str := ["numbers", "number"]
theorem sc_lowest_from : FnScope N_lowest_from ["numbers"] (defScope s_lowest_from) := ⟨rfl, rfl, rfl, by decide +kernel, rfl, by decide +kernel, by decide +kernel⟩
abbrev s_Band___init__ : Stmt := inClass (topS 26) 0
abbrev N_Band___init__ : List Str := ["self", "lows", "highs"]
theorem sc_Band___init__ : FnScope N_Band___init__ ["self", "lows", "highs"] (defScope s_Band___init__) := ⟨rfl, rfl, rfl, by decide +kernel, rfl, by decide +kernel, by decide +kernel⟩
abbrev s_Band_shows : Stmt := inClass (topS 26) 1
abbrev N_Band_shows : List Str := ["self", "numbers", "most", "number", "at"]
theorem sc_Band_shows : FnScope N_Band_shows ["self", "numbers", "most"] (defScope s_Band_shows) := ⟨rfl, rfl, rfl, by decide +kernel, rfl, by decide +kernel, by decide +kernel⟩
abbrev s_Barred___init__ : Stmt := inClass (topS 27) 0
abbrev N_Barred___init__ : List Str := ["self", "first", "second"]
theorem sc_Barred___init__ : FnScope N_Barred___init__ ["self", "first", "second"] (defScope s_Barred___init__) := ⟨rfl, rfl, rfl, by decide +kernel, rfl, by decide +kernel, by decide +kernel⟩
abbrev s_Barred_shows : Stmt := inClass (topS 27) 1
abbrev N_Barred_shows : List Str := ["self", "numbers", "most"]
theorem sc_Barred_shows : FnScope N_Barred_shows ["self", "numbers", "most"] (defScope s_Barred_shows) := ⟨rfl, rfl, rfl, by decide +kernel, rfl, by decide +kernel, by decide +kernel⟩
abbrev s_worst_places : Stmt := topS 29
abbrev N_worst_places : List Str := ["numbers", "best", "top", "at", "number"]
theorem sc_worst_places : FnScope N_worst_places ["numbers"] (defScope s_worst_places) := ⟨rfl, rfl, rfl, by decide +kernel, rfl, by decide +kernel, by decide +kernel⟩
abbrev s_evened : Stmt := topS 30
abbrev N_evened : List Str := ["numbers", "first", "second", "half", "number"]
theorem sc_evened : FnScope N_evened ["numbers"] (defScope s_evened) := ⟨rfl, rfl, rfl, by decide +kernel, rfl, by decide +kernel, by decide +kernel⟩
abbrev s_median : Stmt := topS 31
abbrev N_median : List Str := ["numbers", "weights", "places", "whole", "found", "below", "at"]
theorem sc_median : FnScope N_median ["numbers", "weights", "places"] (defScope s_median) := ⟨rfl, rfl, rfl, by decide +kernel, rfl, by decide +kernel, by decide +kernel⟩
abbrev s_pooled : Stmt := topS 32
abbrev N_pooled : List Str := ["numbers", "weights", "found", "at", "places", "level"]
theorem sc_pooled : FnScope N_pooled ["numbers", "weights"] (defScope s_pooled) := ⟨rfl, rfl, rfl, by decide +kernel, rfl, by decide +kernel, by decide +kernel⟩
abbrev s_pulls_of : Stmt := topS 33
abbrev N_pulls_of : List Str := ["numbers", "weights", "places", "level", "alike", "need", "found", "at", "pull"]
theorem sc_pulls_of : FnScope N_pulls_of ["numbers", "weights", "places", "level"] (defScope s_pulls_of) := ⟨rfl, rfl, rfl, by decide +kernel, rfl, by decide +kernel, by decide +kernel⟩
abbrev s_summed : Stmt := topS 34
abbrev N_summed : List Str := ["numbers", "weights", "row", "pulls", "places", "level"]
theorem sc_summed : FnScope N_summed ["numbers", "weights"] (defScope s_summed) := ⟨rfl, rfl, rfl, by decide +kernel, rfl, by decide +kernel, by decide +kernel⟩
abbrev s_squared : Stmt := topS 35
abbrev N_squared : List Str := ["numbers", "weights", "found", "at", "many", "total", "weight", "one", "other", "more", "row"]
theorem sc_squared : FnScope N_squared ["numbers", "weights"] (defScope s_squared) := ⟨rfl, rfl, rfl, by decide +kernel, rfl, by decide +kernel, by decide +kernel⟩
abbrev s_upper : Stmt := topS 37
abbrev N_upper : List Str := ["numbers"]
theorem sc_upper : FnScope N_upper ["numbers"] (defScope s_upper) := ⟨rfl, rfl, rfl, by decide +kernel, rfl, by decide +kernel, by decide +kernel⟩
abbrev s_lower : Stmt := topS 38
abbrev N_lower : List Str := ["numbers"]
theorem sc_lower : FnScope N_lower ["numbers"] (defScope s_lower) := ⟨rfl, rfl, rfl, by decide +kernel, rfl, by decide +kernel, by decide +kernel⟩
abbrev s__law_numbers : Stmt := topS 40
abbrev N__law_numbers : List Str := ["_law_script", "_law_most", "_law_numbers_here", "_law_cell"]
theorem sc__law_numbers : FnScope N__law_numbers ["_law_script"] (defScope s__law_numbers) := ⟨rfl, rfl, rfl, by decide +kernel, rfl, by decide +kernel, by decide +kernel⟩
abbrev s__law_weights : Stmt := topS 41
abbrev N__law_weights : List Str := ["_law_script", "_law_kind", "_law_rests", "_law_cell", "_law_rest"]
theorem sc__law_weights : FnScope N__law_weights ["_law_script"] (defScope s__law_weights) := ⟨rfl, rfl, rfl, by decide +kernel, rfl, by decide +kernel, by decide +kernel⟩
abbrev s__law_rises : Stmt := topS 42
abbrev N__law_rises : List Str := ["_law_row", "_law_at"]
theorem sc__law_rises : FnScope N__law_rises ["_law_row"] (defScope s__law_rises) := ⟨rfl, rfl, rfl, by decide +kernel, rfl, by decide +kernel, by decide +kernel⟩
abbrev s__law_common : Stmt := topS 43
abbrev N__law_common : List Str := ["_law_one", "_law_other"]
theorem sc__law_common : FnScope N__law_common ["_law_one", "_law_other"] (defScope s__law_common) := ⟨rfl, rfl, rfl, by decide +kernel, rfl, by decide +kernel, by decide +kernel⟩
abbrev s__law_low : Stmt := topS 44
abbrev N__law_low : List Str := ["_law_above", "_law_below", "_law_far"]
theorem sc__law_low : FnScope N__law_low ["_law_above", "_law_below"] (defScope s__law_low) := ⟨rfl, rfl, rfl, by decide +kernel, rfl, by decide +kernel, by decide +kernel⟩
abbrev s__law_sum : Stmt := topS 45
abbrev N__law_sum : List Str := ["_law_one", "_law_other"]
theorem sc__law_sum : FnScope N__law_sum ["_law_one", "_law_other"] (defScope s__law_sum) := ⟨rfl, rfl, rfl, by decide +kernel, rfl, by decide +kernel, by decide +kernel⟩
abbrev s__law_even : Stmt := topS 46
abbrev N__law_even : List Str := ["_law_numbers_here", "_law_row", "_law_first", "_law_second", "_law_cost", "_law_number", "_law_one"]
theorem sc__law_even : FnScope N__law_even ["_law_numbers_here", "_law_row", "_law_first", "_law_second"] (defScope s__law_even) := ⟨rfl, rfl, rfl, by decide +kernel, rfl, by decide +kernel, by decide +kernel⟩
abbrev s__law_summed : Stmt := topS 47
abbrev N__law_summed : List Str := ["_law_numbers_here", "_law_weights_here", "_law_row", "_law_pulls", "_law_total", "_law_told", "_law_cost", "_law_at"]
theorem sc__law_summed : FnScope N__law_summed ["_law_numbers_here", "_law_weights_here", "_law_row", "_law_pulls"] (defScope s__law_summed) := ⟨rfl, rfl, rfl, by decide +kernel, rfl, by decide +kernel, by decide +kernel⟩
abbrev s__law_squared : Stmt := topS 48
abbrev N__law_squared : List Str := ["_law_numbers_here", "_law_weights_here", "_law_row", "_law_total", "_law_at", "_law_above", "_law_below"]
theorem sc__law_squared : FnScope N__law_squared ["_law_numbers_here", "_law_weights_here", "_law_row"] (defScope s__law_squared) := ⟨rfl, rfl, rfl, by decide +kernel, rfl, by decide +kernel, by decide +kernel⟩
abbrev s__law_says : Stmt := topS 49
abbrev N__law_says : List Str := ["_law_said", "_law_due"]
theorem sc__law_says : FnScope N__law_says ["_law_said", "_law_due"] (defScope s__law_says) := ⟨rfl, rfl, rfl, by decide +kernel, rfl, by decide +kernel, by decide +kernel⟩
abbrev s__law_bent : Stmt := topS 50
abbrev N__law_bent : List Str := ["_law_row", "_law_script", "_law_found", "_law_cell", "_law_at"]
theorem sc__law_bent : FnScope N__law_bent ["_law_row", "_law_script"] (defScope s__law_bent) := ⟨rfl, rfl, rfl, by decide +kernel, rfl, by decide +kernel, by decide +kernel⟩
abbrev s__law_evens_right : Stmt := topS 51
abbrev N__law_evens_right : List Str := ["_law_numbers_here", "_law_script", "_law_told", "_law_rows", "_law_row", "_law_first", "_law_second", "_law_handed", "_law_answer", "_law_due", "_law_number"]
theorem sc__law_evens_right : FnScope N__law_evens_right ["_law_numbers_here", "_law_script"] (defScope s__law_evens_right) := ⟨rfl, rfl, rfl, by decide +kernel, rfl, by decide +kernel, by decide +kernel⟩
abbrev s__law_sums_right : Stmt := topS 52
abbrev N__law_sums_right : List Str := ["_law_numbers_here", "_law_weights_here", "_law_script", "_law_told", "_law_many", "_law_row", "_law_pulls", "_law_handed", "_law_answer", "_law_cell", "_law_pull"]
theorem sc__law_sums_right : FnScope N__law_sums_right ["_law_numbers_here", "_law_weights_here", "_law_script"] (defScope s__law_sums_right) := ⟨rfl, rfl, rfl, by decide +kernel, rfl, by decide +kernel, by decide +kernel⟩
abbrev s__law_squares_right : Stmt := topS 53
abbrev N__law_squares_right : List Str := ["_law_numbers_here", "_law_weights_here", "_law_script", "_law_told", "_law_rows", "_law_total", "_law_ends", "_law_row", "_law_handed", "_law_answer", "_law_due", "_law_number", "_law_one", "_law_cell", "_law_weight"]
theorem sc__law_squares_right : FnScope N__law_squares_right ["_law_numbers_here", "_law_weights_here", "_law_script"] (defScope s__law_squares_right) := ⟨rfl, rfl, rfl, by decide +kernel, rfl, by decide +kernel, by decide +kernel⟩
abbrev s__law_bands_right : Stmt := topS 54
abbrev N__law_bands_right : List Str := ["_law_numbers_here", "_law_script", "_law_most", "_law_highs", "_law_lows", "_law_good", "_law_bent_here", "_law_mine", "_law_theirs", "_law_handed", "_law_answer", "_law_cell", "_law_first", "_law_second", "_law_due", "_law_number", "_law_low_here", "_law_high"]
theorem sc__law_bands_right : FnScope N__law_bands_right ["_law_numbers_here", "_law_script"] (defScope s__law_bands_right) := ⟨rfl, rfl, rfl, by decide +kernel, rfl, by decide +kernel, by decide +kernel⟩
abbrev s__law_few_right : Stmt := topS 55
abbrev N__law_few_right : List Str := ["_law_some", "_law_row", "_law_pulls", "_law_due"]
theorem sc__law_few_right : FnScope N__law_few_right [] (defScope s__law_few_right) := ⟨rfl, rfl, rfl, by decide +kernel, rfl, by decide +kernel, by decide +kernel⟩
abbrev s_law : Stmt := topS 56
abbrev N_law : List Str := ["_law_script", "_law_numbers_here", "_law_weights_here"]
theorem sc_law : FnScope N_law ["_law_script"] (defScope s_law) := ⟨rfl, rfl, rfl, by decide +kernel, rfl, by decide +kernel, by decide +kernel⟩
theorem bt_abs : bootBuiltins "abs" = some (.builtin "abs") := by decide +kernel
theorem bt_all : bootBuiltins "all" = some (.builtin "all") := by decide +kernel
theorem bt_bool : bootBuiltins "bool" = some (.type "bool") := by decide +kernel
theorem bt_enumerate : bootBuiltins "enumerate" = some (.type "enumerate") := by decide +kernel
theorem bt_int : bootBuiltins "int" = some (.type "int") := by decide +kernel
theorem bt_isinstance : bootBuiltins "isinstance" = some (.builtin "isinstance") := by decide +kernel
theorem bt_len : bootBuiltins "len" = some (.builtin "len") := by decide +kernel
theorem bt_list : bootBuiltins "list" = some (.type "list") := by decide +kernel
theorem bt_max : bootBuiltins "max" = some (.builtin "max") := by decide +kernel
theorem bt_min : bootBuiltins "min" = some (.builtin "min") := by decide +kernel
theorem bt_range : bootBuiltins "range" = some (.type "range") := by decide +kernel
theorem bt_reversed : bootBuiltins "reversed" = some (.type "reversed") := by decide +kernel
theorem bt_sorted : bootBuiltins "sorted" = some (.builtin "sorted") := by decide +kernel
theorem bt_sum : bootBuiltins "sum" = some (.builtin "sum") := by decide +kernel
theorem bt_zip : bootBuiltins "zip" = some (.type "zip") := by decide +kernel
/-- what the top has written -/
structure Tx (K : PySem.W.Frag) (mg : Str → Option Value) (base : Heap) where
  a_is_number : Addr
  d_is_number : FuncData
  F_is_number : Fun K "is_number" "is_number" s_is_number a_is_number d_is_number
  g_is_number : mg "is_number" = some (.ref a_is_number)
  b_is_number : Binds K d_is_number ["thing"] []
  a_common : Addr
  d_common : FuncData
  F_common : Fun K "common" "common" s_common a_common d_common
  g_common : mg "common" = some (.ref a_common)
  b_common : Binds K d_common ["one", "other"] []
  a_lowest : Addr
  d_lowest : FuncData
  F_lowest : Fun K "lowest" "lowest" s_lowest a_lowest d_lowest
  g_lowest : mg "lowest" = some (.ref a_lowest)
  b_lowest : Binds K d_lowest ["above", "below"] []
  a_plus : Addr
  d_plus : FuncData
  F_plus : Fun K "plus" "plus" s_plus a_plus d_plus
  g_plus : mg "plus" = some (.ref a_plus)
  b_plus : Binds K d_plus ["one", "other"] []
  a_lack : Addr
  d_lack : FuncData
  F_lack : Fun K "lack" "lack" s_lack a_lack d_lack
  g_lack : mg "lack" = some (.ref a_lack)
  b_lack : Binds K d_lack ["number", "fraction", "weight"] []
  a_less : Addr
  d_less : FuncData
  F_less : Fun K "less" "less" s_less a_less d_less
  g_less : mg "less" = some (.ref a_less)
  b_less : Binds K d_less ["one", "other"] []
  a_are_numbers : Addr
  d_are_numbers : FuncData
  F_are_numbers : Fun K "are_numbers" "are_numbers" s_are_numbers a_are_numbers d_are_numbers
  g_are_numbers : mg "are_numbers" = some (.ref a_are_numbers)
  b_are_numbers : Binds K d_are_numbers ["thing"] []
  a_check_numbers : Addr
  d_check_numbers : FuncData
  F_check_numbers : Fun K "check_numbers" "check_numbers" s_check_numbers a_check_numbers d_check_numbers
  g_check_numbers : mg "check_numbers" = some (.ref a_check_numbers)
  b_check_numbers : Binds K d_check_numbers ["numbers"] []
  a_check_weights : Addr
  d_check_weights : FuncData
  F_check_weights : Fun K "check_weights" "check_weights" s_check_weights a_check_weights d_check_weights
  g_check_weights : mg "check_weights" = some (.ref a_check_weights)
  b_check_weights : Binds K d_check_weights ["numbers", "weights"] []
  a_greatest_of : Addr
  d_greatest_of : FuncData
  F_greatest_of : Fun K "greatest_of" "greatest_of" s_greatest_of a_greatest_of d_greatest_of
  g_greatest_of : mg "greatest_of" = some (.ref a_greatest_of)
  b_greatest_of : Binds K d_greatest_of ["numbers", "row"] []
  a_sum_of : Addr
  d_sum_of : FuncData
  F_sum_of : Fun K "sum_of" "sum_of" s_sum_of a_sum_of d_sum_of
  g_sum_of : mg "sum_of" = some (.ref a_sum_of)
  b_sum_of : Binds K d_sum_of ["numbers", "row", "weights"] []
  a_rises : Addr
  d_rises : FuncData
  F_rises : Fun K "rises" "rises" s_rises a_rises d_rises
  g_rises : mg "rises" = some (.ref a_rises)
  b_rises : Binds K d_rises ["row"] []
  a_Evened___init__ : Addr
  d_Evened___init__ : FuncData
  F_Evened___init__ : Fun K "__init__" "Evened.__init__" s_Evened___init__ a_Evened___init__ d_Evened___init__
  b_Evened___init__ : Binds K d_Evened___init__ ["self", "row", "first", "second"] []
  a_Evened_shows : Addr
  d_Evened_shows : FuncData
  F_Evened_shows : Fun K "shows" "Evened.shows" s_Evened_shows a_Evened_shows d_Evened_shows
  b_Evened_shows : Binds K d_Evened_shows ["self", "numbers"] []
  a_from_nought : Addr
  d_from_nought : FuncData
  F_from_nought : Fun K "from_nought" "from_nought" s_from_nought a_from_nought d_from_nought
  g_from_nought : mg "from_nought" = some (.ref a_from_nought)
  b_from_nought : Binds K d_from_nought ["pulls"] []
  a_Summed___init__ : Addr
  d_Summed___init__ : FuncData
  F_Summed___init__ : Fun K "__init__" "Summed.__init__" s_Summed___init__ a_Summed___init__ d_Summed___init__
  b_Summed___init__ : Binds K d_Summed___init__ ["self", "row", "pulls"] []
  a_Summed_shows : Addr
  d_Summed_shows : FuncData
  F_Summed_shows : Fun K "shows" "Summed.shows" s_Summed_shows a_Summed_shows d_Summed_shows
  b_Summed_shows : Binds K d_Summed_shows ["self", "numbers", "weights"] []
  a_Squared___init__ : Addr
  d_Squared___init__ : FuncData
  F_Squared___init__ : Fun K "__init__" "Squared.__init__" s_Squared___init__ a_Squared___init__ d_Squared___init__
  b_Squared___init__ : Binds K d_Squared___init__ ["self", "row"] []
  a_Squared_shows : Addr
  d_Squared_shows : FuncData
  F_Squared_shows : Fun K "shows" "Squared.shows" s_Squared_shows a_Squared_shows d_Squared_shows
  b_Squared_shows : Binds K d_Squared_shows ["self", "numbers", "weights"] []
  a_highest_so_far : Addr
  d_highest_so_far : FuncData
  F_highest_so_far : Fun K "highest_so_far" "highest_so_far" s_highest_so_far a_highest_so_far d_highest_so_far
  g_highest_so_far : mg "highest_so_far" = some (.ref a_highest_so_far)
  b_highest_so_far : Binds K d_highest_so_far ["numbers"] []
  a_lowest_from : Addr
  d_lowest_from : FuncData
  F_lowest_from : Fun K "lowest_from" "lowest_from" s_lowest_from a_lowest_from d_lowest_from
  g_lowest_from : mg "lowest_from" = some (.ref a_lowest_from)
  b_lowest_from : Binds K d_lowest_from ["numbers"] []
  a_Band___init__ : Addr
  d_Band___init__ : FuncData
  F_Band___init__ : Fun K "__init__" "Band.__init__" s_Band___init__ a_Band___init__ d_Band___init__
  b_Band___init__ : Binds K d_Band___init__ ["self", "lows", "highs"] []
  a_Band_shows : Addr
  d_Band_shows : FuncData
  F_Band_shows : Fun K "shows" "Band.shows" s_Band_shows a_Band_shows d_Band_shows
  b_Band_shows : Binds K d_Band_shows ["self", "numbers", "most"] []
  a_Barred___init__ : Addr
  d_Barred___init__ : FuncData
  F_Barred___init__ : Fun K "__init__" "Barred.__init__" s_Barred___init__ a_Barred___init__ d_Barred___init__
  b_Barred___init__ : Binds K d_Barred___init__ ["self", "first", "second"] []
  a_Barred_shows : Addr
  d_Barred_shows : FuncData
  F_Barred_shows : Fun K "shows" "Barred.shows" s_Barred_shows a_Barred_shows d_Barred_shows
  b_Barred_shows : Binds K d_Barred_shows ["self", "numbers", "most"] []
  a_worst_places : Addr
  d_worst_places : FuncData
  F_worst_places : Fun K "worst_places" "worst_places" s_worst_places a_worst_places d_worst_places
  g_worst_places : mg "worst_places" = some (.ref a_worst_places)
  b_worst_places : Binds K d_worst_places ["numbers"] []
  a_evened : Addr
  d_evened : FuncData
  F_evened : Fun K "evened" "evened" s_evened a_evened d_evened
  g_evened : mg "evened" = some (.ref a_evened)
  b_evened : Binds K d_evened ["numbers"] []
  a_median : Addr
  d_median : FuncData
  F_median : Fun K "median" "median" s_median a_median d_median
  g_median : mg "median" = some (.ref a_median)
  b_median : Binds K d_median ["numbers", "weights", "places"] []
  a_pooled : Addr
  d_pooled : FuncData
  F_pooled : Fun K "pooled" "pooled" s_pooled a_pooled d_pooled
  g_pooled : mg "pooled" = some (.ref a_pooled)
  b_pooled : Binds K d_pooled ["numbers", "weights"] []
  a_pulls_of : Addr
  d_pulls_of : FuncData
  F_pulls_of : Fun K "pulls_of" "pulls_of" s_pulls_of a_pulls_of d_pulls_of
  g_pulls_of : mg "pulls_of" = some (.ref a_pulls_of)
  b_pulls_of : Binds K d_pulls_of ["numbers", "weights", "places", "level"] []
  a_summed : Addr
  d_summed : FuncData
  F_summed : Fun K "summed" "summed" s_summed a_summed d_summed
  g_summed : mg "summed" = some (.ref a_summed)
  b_summed : Binds K d_summed ["numbers", "weights"] []
  a_squared : Addr
  d_squared : FuncData
  F_squared : Fun K "squared" "squared" s_squared a_squared d_squared
  g_squared : mg "squared" = some (.ref a_squared)
  b_squared : Binds K d_squared ["numbers", "weights"] []
  a_upper : Addr
  d_upper : FuncData
  F_upper : Fun K "upper" "upper" s_upper a_upper d_upper
  g_upper : mg "upper" = some (.ref a_upper)
  b_upper : Binds K d_upper ["numbers"] []
  a_lower : Addr
  d_lower : FuncData
  F_lower : Fun K "lower" "lower" s_lower a_lower d_lower
  g_lower : mg "lower" = some (.ref a_lower)
  b_lower : Binds K d_lower ["numbers"] []
  a__law_numbers : Addr
  d__law_numbers : FuncData
  F__law_numbers : Fun K "_law_numbers" "_law_numbers" s__law_numbers a__law_numbers d__law_numbers
  g__law_numbers : mg "_law_numbers" = some (.ref a__law_numbers)
  b__law_numbers : Binds K d__law_numbers ["_law_script"] []
  a__law_weights : Addr
  d__law_weights : FuncData
  F__law_weights : Fun K "_law_weights" "_law_weights" s__law_weights a__law_weights d__law_weights
  g__law_weights : mg "_law_weights" = some (.ref a__law_weights)
  b__law_weights : Binds K d__law_weights ["_law_script"] []
  a__law_rises : Addr
  d__law_rises : FuncData
  F__law_rises : Fun K "_law_rises" "_law_rises" s__law_rises a__law_rises d__law_rises
  g__law_rises : mg "_law_rises" = some (.ref a__law_rises)
  b__law_rises : Binds K d__law_rises ["_law_row"] []
  a__law_common : Addr
  d__law_common : FuncData
  F__law_common : Fun K "_law_common" "_law_common" s__law_common a__law_common d__law_common
  g__law_common : mg "_law_common" = some (.ref a__law_common)
  b__law_common : Binds K d__law_common ["_law_one", "_law_other"] []
  a__law_low : Addr
  d__law_low : FuncData
  F__law_low : Fun K "_law_low" "_law_low" s__law_low a__law_low d__law_low
  g__law_low : mg "_law_low" = some (.ref a__law_low)
  b__law_low : Binds K d__law_low ["_law_above", "_law_below"] []
  a__law_sum : Addr
  d__law_sum : FuncData
  F__law_sum : Fun K "_law_sum" "_law_sum" s__law_sum a__law_sum d__law_sum
  g__law_sum : mg "_law_sum" = some (.ref a__law_sum)
  b__law_sum : Binds K d__law_sum ["_law_one", "_law_other"] []
  a__law_even : Addr
  d__law_even : FuncData
  F__law_even : Fun K "_law_even" "_law_even" s__law_even a__law_even d__law_even
  g__law_even : mg "_law_even" = some (.ref a__law_even)
  b__law_even : Binds K d__law_even ["_law_numbers_here", "_law_row", "_law_first", "_law_second"] []
  a__law_summed : Addr
  d__law_summed : FuncData
  F__law_summed : Fun K "_law_summed" "_law_summed" s__law_summed a__law_summed d__law_summed
  g__law_summed : mg "_law_summed" = some (.ref a__law_summed)
  b__law_summed : Binds K d__law_summed ["_law_numbers_here", "_law_weights_here", "_law_row", "_law_pulls"] []
  a__law_squared : Addr
  d__law_squared : FuncData
  F__law_squared : Fun K "_law_squared" "_law_squared" s__law_squared a__law_squared d__law_squared
  g__law_squared : mg "_law_squared" = some (.ref a__law_squared)
  b__law_squared : Binds K d__law_squared ["_law_numbers_here", "_law_weights_here", "_law_row"] []
  a__law_says : Addr
  d__law_says : FuncData
  F__law_says : Fun K "_law_says" "_law_says" s__law_says a__law_says d__law_says
  g__law_says : mg "_law_says" = some (.ref a__law_says)
  b__law_says : Binds K d__law_says ["_law_said", "_law_due"] []
  a__law_bent : Addr
  d__law_bent : FuncData
  F__law_bent : Fun K "_law_bent" "_law_bent" s__law_bent a__law_bent d__law_bent
  g__law_bent : mg "_law_bent" = some (.ref a__law_bent)
  b__law_bent : Binds K d__law_bent ["_law_row", "_law_script"] []
  a__law_evens_right : Addr
  d__law_evens_right : FuncData
  F__law_evens_right : Fun K "_law_evens_right" "_law_evens_right" s__law_evens_right a__law_evens_right d__law_evens_right
  g__law_evens_right : mg "_law_evens_right" = some (.ref a__law_evens_right)
  b__law_evens_right : Binds K d__law_evens_right ["_law_numbers_here", "_law_script"] []
  a__law_sums_right : Addr
  d__law_sums_right : FuncData
  F__law_sums_right : Fun K "_law_sums_right" "_law_sums_right" s__law_sums_right a__law_sums_right d__law_sums_right
  g__law_sums_right : mg "_law_sums_right" = some (.ref a__law_sums_right)
  b__law_sums_right : Binds K d__law_sums_right ["_law_numbers_here", "_law_weights_here", "_law_script"] []
  a__law_squares_right : Addr
  d__law_squares_right : FuncData
  F__law_squares_right : Fun K "_law_squares_right" "_law_squares_right" s__law_squares_right a__law_squares_right d__law_squares_right
  g__law_squares_right : mg "_law_squares_right" = some (.ref a__law_squares_right)
  b__law_squares_right : Binds K d__law_squares_right ["_law_numbers_here", "_law_weights_here", "_law_script"] []
  a__law_bands_right : Addr
  d__law_bands_right : FuncData
  F__law_bands_right : Fun K "_law_bands_right" "_law_bands_right" s__law_bands_right a__law_bands_right d__law_bands_right
  g__law_bands_right : mg "_law_bands_right" = some (.ref a__law_bands_right)
  b__law_bands_right : Binds K d__law_bands_right ["_law_numbers_here", "_law_script"] []
  a__law_few_right : Addr
  d__law_few_right : FuncData
  F__law_few_right : Fun K "_law_few_right" "_law_few_right" s__law_few_right a__law_few_right d__law_few_right
  g__law_few_right : mg "_law_few_right" = some (.ref a__law_few_right)
  b__law_few_right : Binds K d__law_few_right [] []
  a_law : Addr
  d_law : FuncData
  F_law : Fun K "law" "law" s_law a_law d_law
  g_law : mg "law" = some (.ref a_law)
  b_law : Binds K d_law ["_law_script"] []
  m_abs : mg "abs" = none
  m_all : mg "all" = none
  m_bool : mg "bool" = none
  m_enumerate : mg "enumerate" = none
  m_int : mg "int" = none
  m_isinstance : mg "isinstance" = none
  m_len : mg "len" = none
  m_list : mg "list" = none
  m_max : mg "max" = none
  m_min : mg "min" = none
  m_range : mg "range" = none
  m_reversed : mg "reversed" = none
  m_sorted : mg "sorted" = none
  m_sum : mg "sum" = none
  m_zip : mg "zip" = none
  C_Band : Addr
  g_Band : mg "Band" = some (.ref C_Band)
  C_Barred : Addr
  g_Barred : mg "Barred" = some (.ref C_Barred)
  C_Evened : Addr
  g_Evened : mg "Evened" = some (.ref C_Evened)
  C_Squared : Addr
  g_Squared : mg "Squared" = some (.ref C_Squared)
  C_Summed : Addr
  g_Summed : mg "Summed" = some (.ref C_Summed)
  i_Band : C8.InsC K C_Band
  k_Band : Mk K C_Band a_Band___init__
  m_Band_shows : Meth K C_Band "shows" a_Band_shows
  n_Band_lows : NoAttr K C_Band "lows"
  n_Band_highs : NoAttr K C_Band "highs"
  i_Barred : C8.InsC K C_Barred
  k_Barred : Mk K C_Barred a_Barred___init__
  m_Barred_shows : Meth K C_Barred "shows" a_Barred_shows
  n_Barred_first : NoAttr K C_Barred "first"
  n_Barred_second : NoAttr K C_Barred "second"
  i_Evened : C8.InsC K C_Evened
  k_Evened : Mk K C_Evened a_Evened___init__
  m_Evened_shows : Meth K C_Evened "shows" a_Evened_shows
  n_Evened_row : NoAttr K C_Evened "row"
  n_Evened_first : NoAttr K C_Evened "first"
  n_Evened_second : NoAttr K C_Evened "second"
  i_Squared : C8.InsC K C_Squared
  k_Squared : Mk K C_Squared a_Squared___init__
  m_Squared_shows : Meth K C_Squared "shows" a_Squared_shows
  n_Squared_row : NoAttr K C_Squared "row"
  i_Summed : C8.InsC K C_Summed
  k_Summed : Mk K C_Summed a_Summed___init__
  m_Summed_shows : Meth K C_Summed "shows" a_Summed_shows
  n_Summed_row : NoAttr K C_Summed "row"
  n_Summed_pulls : NoAttr K C_Summed "pulls"
  c_tab : Addr
  P_tab : Addr
  tab : PySem.W.tabIn K "median" = some (c_tab, P_tab)
  TB : LamX.TabB base mg c_tab P_tab
  ns_median : PySem.W.nsIn K mainGlobals "median" = some (some (.ref a_median))
  is_Band_Barred : PySem.W.kitOne K (.ref C_Band) (.ref C_Barred) = some false
  is_Band_Evened : PySem.W.kitOne K (.ref C_Band) (.ref C_Evened) = some false
  is_Band_Squared : PySem.W.kitOne K (.ref C_Band) (.ref C_Squared) = some false
  is_Band_Summed : PySem.W.kitOne K (.ref C_Band) (.ref C_Summed) = some false
  is_Barred_Band : PySem.W.kitOne K (.ref C_Barred) (.ref C_Band) = some false
  is_Barred_Evened : PySem.W.kitOne K (.ref C_Barred) (.ref C_Evened) = some false
  is_Barred_Squared : PySem.W.kitOne K (.ref C_Barred) (.ref C_Squared) = some false
  is_Barred_Summed : PySem.W.kitOne K (.ref C_Barred) (.ref C_Summed) = some false
  is_Evened_Band : PySem.W.kitOne K (.ref C_Evened) (.ref C_Band) = some false
  is_Evened_Barred : PySem.W.kitOne K (.ref C_Evened) (.ref C_Barred) = some false
  is_Evened_Squared : PySem.W.kitOne K (.ref C_Evened) (.ref C_Squared) = some false
  is_Evened_Summed : PySem.W.kitOne K (.ref C_Evened) (.ref C_Summed) = some false
  is_Squared_Band : PySem.W.kitOne K (.ref C_Squared) (.ref C_Band) = some false
  is_Squared_Barred : PySem.W.kitOne K (.ref C_Squared) (.ref C_Barred) = some false
  is_Squared_Evened : PySem.W.kitOne K (.ref C_Squared) (.ref C_Evened) = some false
  is_Squared_Summed : PySem.W.kitOne K (.ref C_Squared) (.ref C_Summed) = some false
  is_Summed_Band : PySem.W.kitOne K (.ref C_Summed) (.ref C_Band) = some false
  is_Summed_Barred : PySem.W.kitOne K (.ref C_Summed) (.ref C_Barred) = some false
  is_Summed_Evened : PySem.W.kitOne K (.ref C_Summed) (.ref C_Evened) = some false
  is_Summed_Squared : PySem.W.kitOne K (.ref C_Summed) (.ref C_Squared) = some false
theorem Tx.c_Band {K : PySem.W.Frag} {mg : Str → Option Value} {base : Heap} (T : Tx K mg base) : Cls K T.C_Band := T.i_Band.cl
theorem Tx.c_Barred {K : PySem.W.Frag} {mg : Str → Option Value} {base : Heap} (T : Tx K mg base) : Cls K T.C_Barred := T.i_Barred.cl
theorem Tx.c_Evened {K : PySem.W.Frag} {mg : Str → Option Value} {base : Heap} (T : Tx K mg base) : Cls K T.C_Evened := T.i_Evened.cl
theorem Tx.c_Squared {K : PySem.W.Frag} {mg : Str → Option Value} {base : Heap} (T : Tx K mg base) : Cls K T.C_Squared := T.i_Squared.cl
theorem Tx.c_Summed {K : PySem.W.Frag} {mg : Str → Option Value} {base : Heap} (T : Tx K mg base) : Cls K T.C_Summed := T.i_Summed.cl
end U

namespace U
open PySem PySem.Spec PyProof.Rows L2 DL
section
variable {P : Program} {w : World} {K : PySem.W.Frag} {mg : Str → Option Value} {base : Heap}
local macro_rules | `(tactic| walk_at "lk") => `(tactic| first | with_reducible exact look_hit | ((with_reducible refine look_miss (by decide +kernel) ?_); walk_at "lk") | with_reducible exact look_nil)
local macro_rules | `(tactic| walk_at "fz") => `(tactic| simp only [fz, fzB, chF, Ch.d, List.map, List.set])
local macro_rules | `(tactic| walk_at "ob") => `(tactic| first
  | ((with_reducible show look _ _ = _); walk_at "lk")
  | with_reducible apply de_callO | ((with_reducible show B.d _ = _); rfl) | ((with_reducible apply de_either1); (with_reducible apply de_meth); exact de_var rfl) | ((with_reducible apply de_either2); (with_reducible apply de_meth); exact de_var rfl)
  | with_reducible exact de_cls | with_reducible apply de_fld | with_reducible apply rc_isC | with_reducible apply de_meth
  | walk_at "cl")
local macro_rules | `(tactic| walk_at "r2") => `(tactic| (fail_if_success (with_reducible show R2D _ _ D.non _ _)); (fail_if_success (with_reducible show R2D _ _ _ D.non _)); first
  | exact r2_add | exact r2_sub | exact r2_lt | exact r2_le | exact r2_gt | exact r2_ge
  | with_reducible exact r2_p30 | with_reducible exact r2_p9
  | with_reducible apply r2_mod | with_reducible apply r2_fdiv | with_reducible apply r2_mul | with_reducible apply r2_pow | with_reducible apply r2_cat | with_reducible apply r2_rep1
  | exact r2_ixT rfl | exact r2_ixL rfl | with_reducible apply r2_ixN | with_reducible apply r2_ixI
  | exact r2_eqI | exact r2_neI | exact r2_eqB | exact r2_neB | exact r2_eqL | exact r2_neL | exact r2_isB | exact r2_notB)
local macro_rules | `(tactic| walk_at "rc") => `(tactic| (fail_if_success (with_reducible show RCD _ _ [D.non] _)); (fail_if_success (with_reducible show RCD _ _ [D.non, _] _)); (fail_if_success (with_reducible show RCD _ _ [_, D.non] _)); first
  | with_reducible exact rc_srt
  | exact rc_abs | exact rc_max2 | exact rc_min2 | exact rc_sum | exact rc_all | exact rc_any | exact rc_lenL | exact rc_lenT | exact rc_listL | exact rc_listT
  | with_reducible apply rc_int | with_reducible apply rc_bool | with_reducible apply rc_list | with_reducible apply rc_tuple)
local macro_rules | `(tactic| walk_at "d1") => `(tactic| first
  | with_reducible exact de_int | with_reducible exact de_bl | with_reducible exact de_non | exact de_var rfl
  | with_reducible exact da_nil | with_reducible apply da_cons
  | with_reducible apply de_op | with_reducible apply de_un | with_reducible apply de_cb | with_reducible apply de_call
  | with_reducible apply de_tup | with_reducible apply de_lst
  | with_reducible apply de_andV | with_reducible apply de_orV | with_reducible apply de_notV | ((with_reducible show _ = true → _); intro _) | ((with_reducible show _ = false → _); intro _)
  | with_reducible apply dt_and | with_reducible apply dt_or | with_reducible apply dt_not | with_reducible apply dt_test | with_reducible apply dt_B
  | with_reducible apply de_slice | with_reducible exact do_none | with_reducible apply do_some | with_reducible apply de_rev
  | with_reducible apply de_maxD | with_reducible apply de_chain3 | with_reducible apply de_chain
  | walk_at "r2" | walk_at "rc" | walk_at "ob"
  | ((with_reducible show R1D _ _ (D.int _) _); exact r1_neg)
  | with_reducible exact de_ty
  | with_reducible exact ne_int | with_reducible exact ne_lst | with_reducible exact ne_tup | with_reducible exact ne_bl
  | ((with_reducible show List.length _ = _); rfl) | ((with_reducible show List.length _ + 1 = _); rfl)
  | (with_reducible show List.length _ ≤ 1000); exact Nat.le_of_ble_eq_true rfl)
local macro_rules | `(tactic| walk_at "dg") => `(tactic| repeat' (first | exact dg_name _ trivial | exact dg_name _ (by decide) | with_reducible exact dg_nil | with_reducible apply dg_cons | with_reducible apply dg_tup | ((with_reducible show List.length _ = _); rfl)))
local macro_rules | `(tactic| walk_at "de") => `(tactic| repeat' walk_at "d1")
local macro_rules | `(tactic| walk_at "ret") => `(tactic| (apply ds_ret; apply deo; walk_at "de"))
local macro_rules | `(tactic| walk_at "asg") => `(tactic| (apply ds_seq; apply ds_asg; apply deo; walk_at "de"))
local macro_rules | `(tactic| walk_at "drop") => `(tactic| (apply ds_seq; apply ds_drop; apply deo; walk_at "de"))
local macro_rules | `(tactic| walk_at "par") => `(tactic| (apply ds_seq; apply ds_par; apply dao; walk_at "de"))
local macro_rules | `(tactic| walk_at "parG") => `(tactic| (apply ds_seq; apply ds_asgG; apply deo; walk_at "de"; walk_at "dg"))
local macro_rules | `(tactic| walk_at "lc") => `(tactic| first | with_reducible exact lookC_hit | with_reducible exact lookC_nil | ((with_reducible refine lookC_miss (by decide +kernel) ?_); walk_at "lc"))
local macro_rules | `(tactic| walk_at "pc") => `(tactic| first | with_reducible exact putC_hit | with_reducible exact putC_nil | ((with_reducible apply putC_miss); (decide +kernel); (walk_at "pc")))
local macro_rules | `(tactic| walk_at "cl") => `(tactic| first | with_reducible exact Tx.c_Band _ | with_reducible exact Tx.i_Band _ | with_reducible exact Tx.n_Band_lows _ | with_reducible exact Tx.n_Band_highs _ | with_reducible exact Tx.c_Barred _ | with_reducible exact Tx.i_Barred _ | with_reducible exact Tx.n_Barred_first _ | with_reducible exact Tx.n_Barred_second _ | with_reducible exact Tx.c_Evened _ | with_reducible exact Tx.i_Evened _ | with_reducible exact Tx.n_Evened_row _ | with_reducible exact Tx.n_Evened_first _ | with_reducible exact Tx.n_Evened_second _ | with_reducible exact Tx.c_Squared _ | with_reducible exact Tx.i_Squared _ | with_reducible exact Tx.n_Squared_row _ | with_reducible exact Tx.c_Summed _ | with_reducible exact Tx.i_Summed _ | with_reducible exact Tx.n_Summed_row _ | with_reducible exact Tx.n_Summed_pulls _ | with_reducible exact Tx.is_Band_Barred _ | with_reducible exact Tx.is_Band_Evened _ | with_reducible exact Tx.is_Band_Squared _ | with_reducible exact Tx.is_Band_Summed _ | with_reducible exact Tx.is_Barred_Band _ | with_reducible exact Tx.is_Barred_Evened _ | with_reducible exact Tx.is_Barred_Squared _ | with_reducible exact Tx.is_Barred_Summed _ | with_reducible exact Tx.is_Evened_Band _ | with_reducible exact Tx.is_Evened_Barred _ | with_reducible exact Tx.is_Evened_Squared _ | with_reducible exact Tx.is_Evened_Summed _ | with_reducible exact Tx.is_Squared_Band _ | with_reducible exact Tx.is_Squared_Barred _ | with_reducible exact Tx.is_Squared_Evened _ | with_reducible exact Tx.is_Squared_Summed _ | with_reducible exact Tx.is_Summed_Band _ | with_reducible exact Tx.is_Summed_Barred _ | with_reducible exact Tx.is_Summed_Evened _ | with_reducible exact Tx.is_Summed_Squared _| with_reducible exact (Tx.i_Band _).me | with_reducible exact (Tx.i_Barred _).me | with_reducible exact (Tx.i_Evened _).me | with_reducible exact (Tx.i_Squared _).me | with_reducible exact (Tx.i_Summed _).me)
/-! ## fractions -/
def isNum : D → Bool
  | .int _ => true
  | _ => false
def R_is_number (ds : List D) (d : D) : Prop := ∃ x, ds = [x] ∧ tyN x ≠ "" ∧ d = .bl (isNum x)
theorem ok_is_number (T : Tx K mg base) : FnOk P w K mg base CX0 1 T.a_is_number T.d_is_number ["thing"] (spR K 1 R_is_number) := by
  refine pure_ok T.F_is_number sc_is_number rfl (fun cdv A outer s H E hr => ?_)
  have nd := sc_is_number.nd
  have hu := hr.units
  refine ⟨_, (pss_one (ps_ret (pe_and (pe_callB (isiK K) (by rfl) T.m_isinstance bt_isinstance (pa_cons (pv 0) (pa_cons (pe_bltn (v := .ty "int") (by rfl) T.m_int bt_int rfl) pa_nil))) (pe_one (pe_not (pe_callB (isiK K) (by rfl) T.m_isinstance bt_isinstance (pa_cons (pv 0) (pa_cons (pe_bltn (v := .ty "bool") (by rfl) T.m_bool bt_bool rfl) pa_nil)))))))), fun ds d h => ?_⟩
  obtain ⟨x, rfl, hx, rfl⟩ := h
  change DS _ _ [B.im _] _
  walk_at "ret"
  · exact hx
  · exact hx
  · cases x <;> rfl
/-- the loop of Euclid -/
theorem gcd_turn (a b : Int) : Int.gcd b (a % b) = Int.gcd a b := by
  have h := Int.mul_ediv_add_emod a b
  conv => rhs; rw [← h]
  rw [Int.gcd_mul_left_add_left, Int.gcd_comm]
def R_common (ds : List D) (d : D) : Prop := ∃ a b, ds = [.int a, .int b] ∧ d = .int (Int.gcd a b)
theorem absI_nat (z : Int) : absI z = (z.natAbs : Int) := by
  unfold absI
  split <;> omega
theorem ok_common (T : Tx K mg base) : FnOk P w K mg base CX0 1 T.a_common T.d_common ["one", "other"] (spR K 2 R_common) := by
  refine pure_ok T.F_common sc_common rfl (fun cdv A outer s H E hr => ?_)
  have nd := sc_common.nd
  have hu := hr.units
  refine ⟨_, (pss_cons (ps_par (i := 0) (j := 1) rfl nd rfl rfl (by decide) rfl rfl (pa_cons (pe_callB call_abs (by rfl) T.m_abs bt_abs (pa_cons (pv 0) pa_nil)) (pa_cons (pe_callB call_abs (by rfl) T.m_abs bt_abs (pa_cons (pv 1) pa_nil)) pa_nil)) (by rfl))
      (pss_cons (ps_while PassesOwn.never (pt_cmpR op_gt (pv 1) pe_int (nomark _)) (pss_one (ps_par (i := 0) (j := 1) rfl nd rfl rfl (by decide) rfl rfl (pa_cons (pv 1) (pa_cons (pe_op op_mod (pv 0) (pv 1)) pa_nil)) (by rfl))))
      (pss_one (ps_ret (pv 0))))), fun ds d h => ?_⟩
  obtain ⟨a, b, rfl, rfl⟩ := h
  change DS _ _ [B.im _, B.im _] _
  refine ds_seq ?_
  refine' ds_par 0 1 (dao ?_) ?_
  walk_at "de"
  refine ds_seq (ds_while (fun m Γ' => ∃ x y : Int, Γ' = [.im (.int x), .im (.int y)] ∧ 0 ≤ x ∧ 0 ≤ y ∧ m = y.toNat ∧ Int.gcd x y = Int.gcd a b) _ ⟨absI a, absI b, rfl, ?_, ?_, rfl, ?_⟩ ?_)
  · rw [absI_nat]
    omega
  · rw [absI_nat]
    omega
  · rw [absI_nat, absI_nat]
    unfold Int.gcd
    rw [Int.natAbs_natCast, Int.natAbs_natCast]
  · rintro m Γ' ⟨x, y, rfl, hx, hy, rfl, hg⟩
    refine ⟨decide (0 < y), dto ?_, fun hb => ?_, fun hb => ?_⟩
    · walk_at "de"
    · have h0 : 0 < y := of_decide_eq_true hb
      refine' ds_par 0 1 (dao ?_) ?_
      walk_at "de"
      · exact h0
      · have h1 := Int.emod_nonneg x (show y ≠ 0 by omega)
        have h2 := Int.emod_lt_of_pos x h0
        exact ⟨(x % y).toNat, by omega, y, x % y, rfl, hy, h1, rfl, by rw [gcd_turn x y, hg]⟩
    · have h0 : y = 0 := by
        have := of_decide_eq_false hb
        omega
      subst h0
      walk_at "ret"
      show D.int x = D.int _
      rw [← hg, Int.gcd_zero_right, Int.natAbs_of_nonneg hx]
theorem c_common {a b : Int} : R_common [.int a, .int b] (.int (Int.gcd a b)) := ⟨_, _, rfl, rfl⟩
theorem c_is_number {x : D} (h : tyN x ≠ "") : R_is_number [x] (.bl (isNum x)) := ⟨_, rfl, h, rfl⟩
local macro_rules | `(tactic| walk_at "d1") => `(tactic| first | exact c_common | with_reducible apply c_is_number)
def R_is_fraction (ds : List D) (d : D) : Prop := ∃ q, ds = [qd q] ∧ d = .bl true
def R_lowest (ds : List D) (d : D) : Prop := ∃ a b, ds = [.int a, .int b] ∧ 0 < b ∧ Fit 8998 b ∧ d = qd (frac a b)
theorem ok_lowest (T : Tx K mg base) : FnOk P w K mg base CX0 2 T.a_lowest T.d_lowest ["above", "below"] (spR K 2 R_lowest) := by
  refine pure_ok T.F_lowest sc_lowest rfl (fun cdv A outer s H E hr => ?_)
  have nd := sc_lowest.nd
  have hu := hr.units
  refine ⟨_, (pss_cons (ps_set (i := 2) nd rfl (by first | exact Or.inl rfl | exact Or.inr rfl) (pe_call (ok_common T) (hr.mono (by decide)) (by rfl) T.g_common T.F_common.kp T.b_common .nil pass0 (pa_cons (pv 0) (pa_cons (pv 1) pa_nil))))
      (pss_one (ps_ret (pe_tup (pa_cons (pe_op op_fdivW (pv 0) (pv 2)) (pa_cons (pe_op op_fdivW (pv 1) (pv 2)) pa_nil)))))), fun ds d h => ?_⟩
  obtain ⟨a, b, rfl, h0, h1, rfl⟩ := h
  change DS _ _ [B.im _, B.im _, B.no] _
  walk_at "asg"
  have hg : CDivW b (Int.gcd a b) := (h1.le (by have := gcd_pos (a := a) h0; have := gcd_le (a := a) h0; omega)).divok (gcd_pos h0) (by decide)
  walk_at "ret"
  · exact hg
  · exact hg
  · show D.tup _ = qd _
    unfold qd
    rw [frac_num h0, frac_den h0]
theorem c_lowest {a b : Int} (h : 0 < b) (h2 : Fit 8998 b) : R_lowest [.int a, .int b] (qd (frac a b)) := ⟨_, _, rfl, h, h2, rfl⟩
local macro_rules | `(tactic| walk_at "d1") => `(tactic| with_reducible apply c_lowest)
def R_plus (ds : List D) (d : D) : Prop := ∃ (a b a' b' : Int) (n m n' m' : Nat), ds = [.tup [.int a, .int b], .tup [.int a', .int b']] ∧ 0 < b ∧ 0 < b' ∧ Fit n a ∧ Fit m b ∧ Fit n' a' ∧ Fit m' b' ∧
  n + m' < 100000000 ∧ n' + m < 100000000 ∧ m + m' ≤ 8998 ∧ d = qd (frac a b + frac a' b')
theorem ok_plus (T : Tx K mg base) : FnOk P w K mg base CX0 3 T.a_plus T.d_plus ["one", "other"] (spR K 2 R_plus) := by
  refine pure_ok T.F_plus sc_plus rfl (fun cdv A outer s H E hr => ?_)
  have nd := sc_plus.nd
  have hu := hr.units
  refine ⟨_, (pss_one (ps_ret (pe_call (ok_lowest T) (hr.mono (by decide)) (by rfl) T.g_lowest T.F_lowest.kp T.b_lowest .nil pass0 (pa_cons (pe_op (addK K) (pe_op (mulK K) (pe_ix (ixK K) (pv 0) pe_int (fun _ _ => rfl)) (pe_ix (ixK K) (pv 1) pe_int (fun _ _ => rfl))) (pe_op (mulK K) (pe_ix (ixK K) (pv 1) pe_int (fun _ _ => rfl)) (pe_ix (ixK K) (pv 0) pe_int (fun _ _ => rfl)))) (pa_cons (pe_op (mulK K) (pe_ix (ixK K) (pv 0) pe_int (fun _ _ => rfl)) (pe_ix (ixK K) (pv 1) pe_int (fun _ _ => rfl))) pa_nil))))), fun ds d h => ?_⟩
  obtain ⟨a, b, a', b', n, m, n', m', rfl, hb, hb', fa, fb, fa', fb', h1, h2, h3, rfl⟩ := h
  change DS _ _ [B.im _, B.im _] _
  walk_at "ret"
  · exact fa.mulok fb' h1
  · exact fa'.mulok fb h2
  · exact fb.mulok fb' (by omega)
  · exact Int.mul_pos hb hb'
  · exact (fb.mul fb').mono h3
  · show qd _ = qd _
    rw [frac_plus hb hb']
end
end U

namespace U
open PySem PySem.Spec PyProof.Rows L2 DL
section
variable {P : Program} {w : World} {K : PySem.W.Frag} {mg : Str → Option Value} {base : Heap}
local macro_rules | `(tactic| walk_at "lk") => `(tactic| first | with_reducible exact look_hit | ((with_reducible refine look_miss (by decide +kernel) ?_); walk_at "lk") | with_reducible exact look_nil)
local macro_rules | `(tactic| walk_at "fz") => `(tactic| simp only [fz, fzB, chF, Ch.d, List.map, List.set])
local macro_rules | `(tactic| walk_at "ob") => `(tactic| first
  | ((with_reducible show look _ _ = _); walk_at "lk")
  | with_reducible apply de_callO | ((with_reducible show B.d _ = _); rfl) | ((with_reducible apply de_either1); (with_reducible apply de_meth); exact de_var rfl) | ((with_reducible apply de_either2); (with_reducible apply de_meth); exact de_var rfl)
  | with_reducible exact de_cls | with_reducible apply de_fld | with_reducible apply rc_isC | with_reducible apply de_meth
  | walk_at "cl")
local macro_rules | `(tactic| walk_at "r2") => `(tactic| (fail_if_success (with_reducible show R2D _ _ D.non _ _)); (fail_if_success (with_reducible show R2D _ _ _ D.non _)); first
  | exact r2_add | exact r2_sub | exact r2_lt | exact r2_le | exact r2_gt | exact r2_ge
  | with_reducible exact r2_p30 | with_reducible exact r2_p9
  | with_reducible apply r2_mod | with_reducible apply r2_fdiv | with_reducible apply r2_mul | with_reducible apply r2_pow | with_reducible apply r2_cat | with_reducible apply r2_rep1
  | exact r2_ixT rfl | exact r2_ixL rfl | with_reducible apply r2_ixN | with_reducible apply r2_ixI
  | exact r2_eqI | exact r2_neI | exact r2_eqB | exact r2_neB | exact r2_eqL | exact r2_neL | exact r2_isB | exact r2_notB)
local macro_rules | `(tactic| walk_at "rc") => `(tactic| (fail_if_success (with_reducible show RCD _ _ [D.non] _)); (fail_if_success (with_reducible show RCD _ _ [D.non, _] _)); (fail_if_success (with_reducible show RCD _ _ [_, D.non] _)); first
  | with_reducible exact rc_srt
  | exact rc_abs | exact rc_max2 | exact rc_min2 | exact rc_sum | exact rc_all | exact rc_any | exact rc_lenL | exact rc_lenT | exact rc_listL | exact rc_listT
  | with_reducible apply rc_int | with_reducible apply rc_bool | with_reducible apply rc_list | with_reducible apply rc_tuple)
local macro_rules | `(tactic| walk_at "d1") => `(tactic| first
  | with_reducible exact de_int | with_reducible exact de_bl | with_reducible exact de_non | exact de_var rfl
  | with_reducible exact da_nil | with_reducible apply da_cons
  | with_reducible apply de_op | with_reducible apply de_un | with_reducible apply de_cb | with_reducible apply de_call
  | with_reducible apply de_tup | with_reducible apply de_lst
  | with_reducible apply de_andV | with_reducible apply de_orV | with_reducible apply de_notV | ((with_reducible show _ = true → _); intro _) | ((with_reducible show _ = false → _); intro _)
  | with_reducible apply dt_and | with_reducible apply dt_or | with_reducible apply dt_not | with_reducible apply dt_test | with_reducible apply dt_B
  | with_reducible apply de_slice | with_reducible exact do_none | with_reducible apply do_some | with_reducible apply de_rev
  | with_reducible apply de_maxD | with_reducible apply de_chain3 | with_reducible apply de_chain
  | walk_at "r2" | walk_at "rc" | walk_at "ob"
  | ((with_reducible show R1D _ _ (D.int _) _); exact r1_neg)
  | with_reducible exact de_ty
  | with_reducible exact ne_int | with_reducible exact ne_lst | with_reducible exact ne_tup | with_reducible exact ne_bl
  | ((with_reducible show List.length _ = _); rfl) | ((with_reducible show List.length _ + 1 = _); rfl)
  | (with_reducible show List.length _ ≤ 1000); exact Nat.le_of_ble_eq_true rfl)
local macro_rules | `(tactic| walk_at "dg") => `(tactic| repeat' (first | exact dg_name _ trivial | exact dg_name _ (by decide) | with_reducible exact dg_nil | with_reducible apply dg_cons | with_reducible apply dg_tup | ((with_reducible show List.length _ = _); rfl)))
local macro_rules | `(tactic| walk_at "de") => `(tactic| repeat' walk_at "d1")
local macro_rules | `(tactic| walk_at "ret") => `(tactic| (apply ds_ret; apply deo; walk_at "de"))
local macro_rules | `(tactic| walk_at "asg") => `(tactic| (apply ds_seq; apply ds_asg; apply deo; walk_at "de"))
local macro_rules | `(tactic| walk_at "drop") => `(tactic| (apply ds_seq; apply ds_drop; apply deo; walk_at "de"))
local macro_rules | `(tactic| walk_at "par") => `(tactic| (apply ds_seq; apply ds_par; apply dao; walk_at "de"))
local macro_rules | `(tactic| walk_at "parG") => `(tactic| (apply ds_seq; apply ds_asgG; apply deo; walk_at "de"; walk_at "dg"))
local macro_rules | `(tactic| walk_at "lc") => `(tactic| first | with_reducible exact lookC_hit | with_reducible exact lookC_nil | ((with_reducible refine lookC_miss (by decide +kernel) ?_); walk_at "lc"))
local macro_rules | `(tactic| walk_at "pc") => `(tactic| first | with_reducible exact putC_hit | with_reducible exact putC_nil | ((with_reducible apply putC_miss); (decide +kernel); (walk_at "pc")))
local macro_rules | `(tactic| walk_at "cl") => `(tactic| first | with_reducible exact Tx.c_Band _ | with_reducible exact Tx.i_Band _ | with_reducible exact Tx.n_Band_lows _ | with_reducible exact Tx.n_Band_highs _ | with_reducible exact Tx.c_Barred _ | with_reducible exact Tx.i_Barred _ | with_reducible exact Tx.n_Barred_first _ | with_reducible exact Tx.n_Barred_second _ | with_reducible exact Tx.c_Evened _ | with_reducible exact Tx.i_Evened _ | with_reducible exact Tx.n_Evened_row _ | with_reducible exact Tx.n_Evened_first _ | with_reducible exact Tx.n_Evened_second _ | with_reducible exact Tx.c_Squared _ | with_reducible exact Tx.i_Squared _ | with_reducible exact Tx.n_Squared_row _ | with_reducible exact Tx.c_Summed _ | with_reducible exact Tx.i_Summed _ | with_reducible exact Tx.n_Summed_row _ | with_reducible exact Tx.n_Summed_pulls _ | with_reducible exact Tx.is_Band_Barred _ | with_reducible exact Tx.is_Band_Evened _ | with_reducible exact Tx.is_Band_Squared _ | with_reducible exact Tx.is_Band_Summed _ | with_reducible exact Tx.is_Barred_Band _ | with_reducible exact Tx.is_Barred_Evened _ | with_reducible exact Tx.is_Barred_Squared _ | with_reducible exact Tx.is_Barred_Summed _ | with_reducible exact Tx.is_Evened_Band _ | with_reducible exact Tx.is_Evened_Barred _ | with_reducible exact Tx.is_Evened_Squared _ | with_reducible exact Tx.is_Evened_Summed _ | with_reducible exact Tx.is_Squared_Band _ | with_reducible exact Tx.is_Squared_Barred _ | with_reducible exact Tx.is_Squared_Evened _ | with_reducible exact Tx.is_Squared_Summed _ | with_reducible exact Tx.is_Summed_Band _ | with_reducible exact Tx.is_Summed_Barred _ | with_reducible exact Tx.is_Summed_Evened _ | with_reducible exact Tx.is_Summed_Squared _| with_reducible exact (Tx.i_Band _).me | with_reducible exact (Tx.i_Barred _).me | with_reducible exact (Tx.i_Evened _).me | with_reducible exact (Tx.i_Squared _).me | with_reducible exact (Tx.i_Summed _).me)
local macro_rules | `(tactic| walk_at "d1") => `(tactic| first | exact c_common | with_reducible apply c_is_number)
local macro_rules | `(tactic| walk_at "d1") => `(tactic| with_reducible apply c_lowest)
/-! ## costs -/
def Wts (ws : List Int) : Prop := ∀ w ∈ ws, 0 < w ∧ w < 2 ^ 40
theorem getD_mem {α : Type} {xs : List α} {i : Nat} {z : α} (h : i < xs.length) : xs.getD i z ∈ xs := by
  rw [List.getD_eq_getElem?_getD, List.getElem?_eq_getElem h]
  exact List.getElem_mem h
theorem allT {α : Type} (xs : List α) {f : α → Bool} (h : ∀ x ∈ xs, f x = true) : (xs.map f).all id = true := by
  rw [List.all_map]
  exact List.all_eq_true.mpr fun x hx => h x hx
def R_are_numbers (ds : List D) (d : D) : Prop := ∃ ns : List Int, ds = [.lst (dI ns)] ∧ ns.length ≤ 1000 ∧ d = .bl true
theorem ok_are_numbers (T : Tx K mg base) : FnOk P w K mg base CX0 2 T.a_are_numbers T.d_are_numbers ["thing"] (spR K 1 R_are_numbers) := by
  refine pure_ok T.F_are_numbers sc_are_numbers rfl (fun cdv A outer s H E hr => ?_)
  have nd := sc_are_numbers.nd
  have hu := hr.units
  refine ⟨_, (pss_one (ps_ret (pe_and (pe_callB (isiK K) (by rfl) T.m_isinstance bt_isinstance (pa_cons (pv 0) (pa_cons (pe_bltn (v := .ty "list") (by rfl) T.m_list bt_list rfl) pa_nil))) (pe_one (pe_callB (allK K rfl) (by rfl) T.m_all bt_all (pa_cons (pe_lc (own := [("one", 1)]) (g := (gName 1)) (tt := tYes) rfl nd (pi_listK K (pv 0)) (blkOk_by (own := [("one", 1)]) (N := N_are_numbers) (sc := defScope s_are_numbers) (by decide +kernel)) (fun _ _ _ _ _ => (pg_name (i := 1) nd rfl (by first | exact Or.inl rfl | exact Or.inr rfl))) (fun _ _ _ _ _ => pts_nil) (fun _ _ _ _ _ => (pe_call (ok_is_number T) (hr.mono (by decide)) (by rfl) T.g_is_number T.F_is_number.kp T.b_is_number .nil pass0 (pa_cons (pv 1) pa_nil)))) pa_nil)))))), fun ds d h => ?_⟩
  obtain ⟨ns, rfl, hl, rfl⟩ := h
  change DS _ _ [B.im _, B.no] _
  walk_at "ret"
  · apply de_lcB (fun n : Int => isNum (.int n)) (di_list (de_var rfl)) (by omega)
    intro x hx
    refine ⟨_, dg_name _ (by decide), ?_⟩
    walk_at "de"
  walk_at "de"
  · show D.bl _ = D.bl true
    rw [allT ns (f := fun n : Int => isNum (.int n)) fun _ _ => rfl]
    rfl
theorem c_are_numbers {ns : List Int} (h : ns.length ≤ 1000) : R_are_numbers [.lst (dI ns)] (.bl true) := ⟨_, rfl, h, rfl⟩
local macro_rules | `(tactic| walk_at "d1") => `(tactic| with_reducible apply c_are_numbers)
def R_check_numbers (ds : List D) (d : D) : Prop := ∃ ns : List Int, ds = [.lst (dI ns)] ∧ ns.length ≤ 1000 ∧ d = .non
theorem ok_check_numbers (T : Tx K mg base) : FnOk P w K mg base CX0 3 T.a_check_numbers T.d_check_numbers ["numbers"] (spR K 1 R_check_numbers) := by
  refine pure_ok T.F_check_numbers sc_check_numbers rfl (fun cdv A outer s H E hr => ?_)
  have nd := sc_check_numbers.nd
  have hu := hr.units
  refine ⟨_, (pss_one (ps_if (pt_not (pt_val (pe_call (ok_are_numbers T) (hr.mono (by decide)) (by rfl) T.g_are_numbers T.F_are_numbers.kp T.b_are_numbers .nil pass0 (pa_cons (pv 0) pa_nil)))) (pss_one ps_never) pss_nil)), fun ds d h => ?_⟩
  obtain ⟨ns, rfl, hl, rfl⟩ := h
  change DS _ _ [B.im _] _
  refine ds_ifF (dto ?_) (ds_next rfl)
  refine' dt_is _ _
  rotate_left
  · walk_at "de"
    exact hl
  · rfl
theorem c_check_numbers {ns : List Int} (h : ns.length ≤ 1000) : R_check_numbers [.lst (dI ns)] .non := ⟨_, rfl, h, rfl⟩
local macro_rules | `(tactic| walk_at "d1") => `(tactic| with_reducible apply c_check_numbers)
def R_check_row (ds : List D) (d : D) : Prop := ∃ ns rs : List Int, ds = [.lst (dI ns), .lst (dI rs)] ∧ ns.length ≤ 1000 ∧ rs.length = ns.length ∧ d = .non
theorem c_check_row {ns rs : List Int} (h : ns.length ≤ 1000) (h2 : rs.length = ns.length) : R_check_row [.lst (dI ns), .lst (dI rs)] .non := ⟨_, _, rfl, h, h2, rfl⟩
local macro_rules | `(tactic| walk_at "d1") => `(tactic| with_reducible apply c_check_row)
def R_check_weights (ds : List D) (d : D) : Prop := ∃ ns rs : List Int, ds = [.lst (dI ns), .lst (dI rs)] ∧ ns.length ≤ 1000 ∧ rs.length = ns.length ∧ Wts rs ∧ d = .non
theorem ok_check_weights (T : Tx K mg base) : FnOk P w K mg base CX0 3 T.a_check_weights T.d_check_weights ["numbers", "weights"] (spR K 2 R_check_weights) := by
  refine pure_ok T.F_check_weights sc_check_weights rfl (fun cdv A outer s H E hr => ?_)
  have nd := sc_check_weights.nd
  have hu := hr.units
  refine ⟨_, (pss_one (ps_if (PW.pt (pw_or (pt_not (pt_val (pe_call (ok_are_numbers T) (hr.mono (by decide)) (by rfl) T.g_are_numbers T.F_are_numbers.kp T.b_are_numbers .nil pass0 (pa_cons (pv 1) pa_nil)))) (pw_or (pt_cmpR (neK K hu) (pe_callB (lenK K) (by rfl) T.m_len bt_len (pa_cons (pv 1) pa_nil)) (pe_callB (lenK K) (by rfl) T.m_len bt_len (pa_cons (pv 0) pa_nil)) (nomark _)) (pw_or1 (pt_not (pt_val (pe_callB (allK K rfl) (by rfl) T.m_all bt_all (pa_cons (pe_lc (own := [("weight", 2)]) (g := (gName 2)) (tt := tYes) rfl nd (pi_listK K (pv 1)) (blkOk_by (own := [("weight", 2)]) (N := N_check_weights) (sc := defScope s_check_weights) (by decide +kernel)) (fun _ _ _ _ _ => (pg_name (i := 2) nd rfl (by first | exact Or.inl rfl | exact Or.inr rfl))) (fun _ _ _ _ _ => pts_nil) (fun _ _ _ _ _ => (pe_cmpR op_gt (pv 2) pe_int (nomark _)))) pa_nil)))))))) (pss_one ps_never) pss_nil)), fun ds d h => ?_⟩
  obtain ⟨ns, rs, rfl, hl, he, hw, rfl⟩ := h
  change DS _ _ [B.im _, B.im _, B.no] _
  refine ds_ifF (dto ?_) (ds_next rfl)
  refine' dt_is _ _
  rotate_left
  · walk_at "de"
    · omega
    · apply de_lcB (fun n : Int => decide (0 < n)) (di_list (de_var rfl)) (by omega)
      intro x hx
      refine ⟨_, dg_name _ (by decide), ?_⟩
      walk_at "de"
    walk_at "de"
  · rw [List.length_map, List.length_map, he, allT rs fun x hx => decide_eq_true (hw x hx).1]
    simp
theorem c_check_weights {ns rs : List Int} (h : ns.length ≤ 1000) (h2 : rs.length = ns.length) (h3 : Wts rs) : R_check_weights [.lst (dI ns), .lst (dI rs)] .non := ⟨_, _, rfl, h, h2, h3, rfl⟩
local macro_rules | `(tactic| walk_at "d1") => `(tactic| with_reducible apply c_check_weights)
/-- the costs -/
def costG (ns rs : List Int) : Int := maxOr 0 ((List.range ns.length).map fun i => absI (ns.getD i 0 - rs.getD i 0))
def costS (ns rs ws : List Int) : Int := ((List.range ns.length).map fun i => ws.getD i 0 * absI (ns.getD i 0 - rs.getD i 0)).sum
def R_greatest_of (ds : List D) (d : D) : Prop := ∃ ns rs : List Int, ds = [.lst (dI ns), .lst (dI rs)] ∧ ns.length ≤ 1000 ∧ rs.length = ns.length ∧ d = .int (costG ns rs)
theorem ok_greatest_of (T : Tx K mg base) : FnOk P w K mg base CX0 1 T.a_greatest_of T.d_greatest_of ["numbers", "row"] (spR K 2 R_greatest_of) := by
  refine pure_ok T.F_greatest_of sc_greatest_of rfl (fun cdv A outer s H E hr => ?_)
  have nd := sc_greatest_of.nd
  have hu := hr.units
  refine ⟨_, (pss_one (ps_ret (pe_callBK (maxDK K rfl) (by rfl) T.m_max bt_max (pa_cons (pe_lc (own := [("at", 2)]) (g := (gName 2)) (tt := tYes) rfl nd (pi_range1 (by rfl) T.m_range (pa_cons (pe_callB (lenK K) (by rfl) T.m_len bt_len (pa_cons (pv 0) pa_nil)) pa_nil)) (blkOk_by (own := [("at", 2)]) (N := N_greatest_of) (sc := defScope s_greatest_of) (by decide +kernel)) (fun _ _ _ _ _ => (pg_name (i := 2) nd rfl (by first | exact Or.inl rfl | exact Or.inr rfl))) (fun _ _ _ _ _ => pts_nil) (fun _ _ _ _ _ => (pe_callB call_abs (by rfl) T.m_abs bt_abs (pa_cons (pe_op op_sub (pe_ix (ixK K) (pv 0) (pv 2) (fun _ _ => rfl)) (pe_ix (ixK K) (pv 1) (pv 2) (fun _ _ => rfl))) pa_nil)))) pa_nil) (pk_cons pe_int pk_nil)))), fun ds d h => ?_⟩
  obtain ⟨ns, rs, rfl, hl, he, rfl⟩ := h
  change DS _ _ [B.im _, B.im _, B.no] _
  walk_at "ret"
  · apply de_lcI (fun i : Nat => absI (ns.getD i 0 - rs.getD i 0)) (di_rng1 (by walk_at "de") (by rw [List.length_map]; omega)) (by rw [List.length_range, List.length_map]; omega)
    intro x hx
    have hx' : x < ns.length := by
      rw [List.length_map] at hx
      exact List.mem_range.mp hx
    refine ⟨_, dg_name _ (by decide), ?_⟩
    walk_at "de"
    · exact hx'
    · omega
  walk_at "de"
  · show D.int _ = D.int (costG ns rs)
    unfold costG
    rw [List.length_map]
theorem c_greatest_of {ns rs : List Int} (h : ns.length ≤ 1000) (h2 : rs.length = ns.length) : R_greatest_of [.lst (dI ns), .lst (dI rs)] (.int (costG ns rs)) := ⟨_, _, rfl, h, h2, rfl⟩
local macro_rules | `(tactic| walk_at "d1") => `(tactic| with_reducible apply c_greatest_of)
theorem Wts.cmul {ws : List Int} (h : Wts ws) {i : Nat} (hi : i < ws.length) (y : Int) : CMulX (ws.getD i 0) y := .inl (.inl (by
  have := h _ (getD_mem (z := 0) hi)
  exact ⟨by omega, by omega⟩))
def R_sum_of (ds : List D) (d : D) : Prop := ∃ ns rs ws : List Int, ds = [.lst (dI ns), .lst (dI rs), .lst (dI ws)] ∧ ns.length ≤ 1000 ∧ rs.length = ns.length ∧ ws.length = ns.length ∧ Wts ws ∧ d = .int (costS ns rs ws)
theorem ok_sum_of (T : Tx K mg base) : FnOk P w K mg base CX0 1 T.a_sum_of T.d_sum_of ["numbers", "row", "weights"] (spR K 3 R_sum_of) := by
  refine pure_ok T.F_sum_of sc_sum_of rfl (fun cdv A outer s H E hr => ?_)
  have nd := sc_sum_of.nd
  have hu := hr.units
  refine ⟨_, (pss_one (ps_ret (pe_callB (sumK K rfl) (by rfl) T.m_sum bt_sum (pa_cons (pe_lc (own := [("at", 3)]) (g := (gName 3)) (tt := tYes) rfl nd (pi_range1 (by rfl) T.m_range (pa_cons (pe_callB (lenK K) (by rfl) T.m_len bt_len (pa_cons (pv 0) pa_nil)) pa_nil)) (blkOk_by (own := [("at", 3)]) (N := N_sum_of) (sc := defScope s_sum_of) (by decide +kernel)) (fun _ _ _ _ _ => (pg_name (i := 3) nd rfl (by first | exact Or.inl rfl | exact Or.inr rfl))) (fun _ _ _ _ _ => pts_nil) (fun _ _ _ _ _ => (pe_op (mulK K) (pe_ix (ixK K) (pv 2) (pv 3) (fun _ _ => rfl)) (pe_callB call_abs (by rfl) T.m_abs bt_abs (pa_cons (pe_op op_sub (pe_ix (ixK K) (pv 0) (pv 3) (fun _ _ => rfl)) (pe_ix (ixK K) (pv 1) (pv 3) (fun _ _ => rfl))) pa_nil))))) pa_nil)))), fun ds d h => ?_⟩
  obtain ⟨ns, rs, ws, rfl, hl, he, he2, hw, rfl⟩ := h
  change DS _ _ [B.im _, B.im _, B.im _, B.no] _
  walk_at "ret"
  · apply de_lcI (fun i : Nat => ws.getD i 0 * absI (ns.getD i 0 - rs.getD i 0)) (di_rng1 (by walk_at "de") (by rw [List.length_map]; omega)) (by rw [List.length_range, List.length_map]; omega)
    intro x hx
    have hx' : x < ns.length := by
      rw [List.length_map] at hx
      exact List.mem_range.mp hx
    refine ⟨_, dg_name _ (by decide), ?_⟩
    walk_at "de"
    · omega
    · exact hx'
    · omega
    · exact hw.cmul (by omega) _
  walk_at "de"
  · show D.int _ = D.int (costS ns rs ws)
    unfold costS
    rw [List.length_map]
theorem c_sum_of {ns rs ws : List Int} (h : ns.length ≤ 1000) (h2 : rs.length = ns.length) (h3 : ws.length = ns.length) (h4 : Wts ws) : R_sum_of [.lst (dI ns), .lst (dI rs), .lst (dI ws)] (.int (costS ns rs ws)) := ⟨_, _, _, rfl, h, h2, h3, h4, rfl⟩
local macro_rules | `(tactic| walk_at "d1") => `(tactic| with_reducible apply c_sum_of)
def R_greatest : List D → D → Prop := R_greatest_of
theorem c_greatest {ns rs : List Int} (h : ns.length ≤ 1000) (h2 : rs.length = ns.length) : R_greatest [.lst (dI ns), .lst (dI rs)] (.int (costG ns rs)) := ⟨_, _, rfl, h, h2, rfl⟩
def R_summed_up : List D → D → Prop := R_sum_of
theorem c_summed_up {ns rs ws : List Int} (h : ns.length ≤ 1000) (h2 : rs.length = ns.length) (h3 : ws.length = ns.length) (h4 : Wts ws) : R_summed_up [.lst (dI ns), .lst (dI rs), .lst (dI ws)] (.int (costS ns rs ws)) := ⟨_, _, _, rfl, h, h2, h3, h4, rfl⟩
theorem c_is_fraction {q : Rat} : R_is_fraction [qd q] (.bl true) := ⟨_, rfl, rfl⟩
theorem c_plus {p q : Rat} (n m n' m' : Nat) (hp : QFit n m p) (hq : QFit n' m' q) (h1 : n + m' < 100000000) (h2 : n' + m < 100000000) (h3 : m + m' ≤ 8998) : R_plus [qd p, qd q] (qd (p + q)) := ⟨_, _, _, _, _, _, _, _, rfl, den_pos p, den_pos q, hp.1, hp.2, hq.1, hq.2, h1, h2, h3, by rw [frac_self, frac_self]⟩
local macro_rules | `(tactic| walk_at "d1") => `(tactic| first | with_reducible apply c_greatest | with_reducible apply c_summed_up | with_reducible exact c_is_fraction)
/-- the cost by squares -/
def costQ (ns : List Int) (qs : List Rat) (ws : List Int) : Rat := sumTo (fun i => (ws.getD i 0 : Rat) * ((ns.getD i 0 : Rat) - qs.getD i 0) * ((ns.getD i 0 : Rat) - qs.getD i 0)) ns.length
theorem far_eq (n : Int) (q : Rat) (w : Int) : frac (w * (n * (q.den : Int) - q.num) * (n * (q.den : Int) - q.num)) ((q.den : Int) * (q.den : Int)) = (w : Rat) * ((n : Rat) - q) * ((n : Rat) - q) := by
  rw [frac_eq (Int.mul_pos (den_pos q) (den_pos q))]
  have e : q = (q.num : Rat) / ((q.den : Int) : Rat) := by
    conv => lhs; rw [← frac_self q, frac_eq (den_pos q)]
  have hd : ((q.den : Int) : Rat) ≠ 0 := by
    have := den_pos q
    exact fun z => by
      have := Rat.intCast_inj.mp (show ((q.den : Int) : Rat) = ((0 : Int) : Rat) from z)
      omega
  generalize (q.den : Int) = b at *
  generalize q.num = a at *
  rw [e, Rat.intCast_mul, Rat.intCast_mul, Rat.intCast_mul, Rat.intCast_sub, Rat.intCast_mul]
  grind
def R_squares (ds : List D) (d : D) : Prop := ∃ (ns : List Int) (qs : List Rat) (ws : List Int), ds = [.lst (dI ns), .lst (qs.map qd), .lst (dI ws)] ∧ ns.length ≤ 63 ∧ qs.length = ns.length ∧ ws.length = ns.length ∧ Wts ws ∧
  (∀ n ∈ ns, Fit 4000000 n) ∧ (∀ q ∈ qs, QFit 5000000 60 q) ∧ d = qd (costQ ns qs ws)
end
end U

namespace U
open PySem PySem.Spec PyProof.Rows L2 DL
section
variable {P : Program} {w : World} {K : PySem.W.Frag} {mg : Str → Option Value} {base : Heap}
local macro_rules | `(tactic| walk_at "lk") => `(tactic| first | with_reducible exact look_hit | ((with_reducible refine look_miss (by decide +kernel) ?_); walk_at "lk") | with_reducible exact look_nil)
local macro_rules | `(tactic| walk_at "fz") => `(tactic| simp only [fz, fzB, chF, Ch.d, List.map, List.set])
local macro_rules | `(tactic| walk_at "ob") => `(tactic| first
  | ((with_reducible show look _ _ = _); walk_at "lk")
  | with_reducible apply de_callO | ((with_reducible show B.d _ = _); rfl) | ((with_reducible apply de_either1); (with_reducible apply de_meth); exact de_var rfl) | ((with_reducible apply de_either2); (with_reducible apply de_meth); exact de_var rfl)
  | with_reducible exact de_cls | with_reducible apply de_fld | with_reducible apply rc_isC | with_reducible apply de_meth
  | walk_at "cl")
local macro_rules | `(tactic| walk_at "r2") => `(tactic| (fail_if_success (with_reducible show R2D _ _ D.non _ _)); (fail_if_success (with_reducible show R2D _ _ _ D.non _)); first
  | exact r2_add | exact r2_sub | exact r2_lt | exact r2_le | exact r2_gt | exact r2_ge
  | with_reducible exact r2_p30 | with_reducible exact r2_p9
  | with_reducible apply r2_mod | with_reducible apply r2_fdiv | with_reducible apply r2_mul | with_reducible apply r2_pow | with_reducible apply r2_cat | with_reducible apply r2_rep1
  | exact r2_ixT rfl | exact r2_ixL rfl | with_reducible apply r2_ixN | with_reducible apply r2_ixI
  | exact r2_eqI | exact r2_neI | exact r2_eqB | exact r2_neB | exact r2_eqL | exact r2_neL | exact r2_isB | exact r2_notB)
local macro_rules | `(tactic| walk_at "rc") => `(tactic| (fail_if_success (with_reducible show RCD _ _ [D.non] _)); (fail_if_success (with_reducible show RCD _ _ [D.non, _] _)); (fail_if_success (with_reducible show RCD _ _ [_, D.non] _)); first
  | with_reducible exact rc_srt
  | exact rc_abs | exact rc_max2 | exact rc_min2 | exact rc_sum | exact rc_all | exact rc_any | exact rc_lenL | exact rc_lenT | exact rc_listL | exact rc_listT
  | with_reducible apply rc_int | with_reducible apply rc_bool | with_reducible apply rc_list | with_reducible apply rc_tuple)
local macro_rules | `(tactic| walk_at "d1") => `(tactic| first
  | with_reducible exact de_int | with_reducible exact de_bl | with_reducible exact de_non | exact de_var rfl
  | with_reducible exact da_nil | with_reducible apply da_cons
  | with_reducible apply de_op | with_reducible apply de_un | with_reducible apply de_cb | with_reducible apply de_call
  | with_reducible apply de_tup | with_reducible apply de_lst
  | with_reducible apply de_andV | with_reducible apply de_orV | with_reducible apply de_notV | ((with_reducible show _ = true → _); intro _) | ((with_reducible show _ = false → _); intro _)
  | with_reducible apply dt_and | with_reducible apply dt_or | with_reducible apply dt_not | with_reducible apply dt_test | with_reducible apply dt_B
  | with_reducible apply de_slice | with_reducible exact do_none | with_reducible apply do_some | with_reducible apply de_rev
  | with_reducible apply de_maxD | with_reducible apply de_chain3 | with_reducible apply de_chain
  | walk_at "r2" | walk_at "rc" | walk_at "ob"
  | ((with_reducible show R1D _ _ (D.int _) _); exact r1_neg)
  | with_reducible exact de_ty
  | with_reducible exact ne_int | with_reducible exact ne_lst | with_reducible exact ne_tup | with_reducible exact ne_bl
  | ((with_reducible show List.length _ = _); rfl) | ((with_reducible show List.length _ + 1 = _); rfl)
  | (with_reducible show List.length _ ≤ 1000); exact Nat.le_of_ble_eq_true rfl)
local macro_rules | `(tactic| walk_at "dg") => `(tactic| repeat' (first | exact dg_name _ trivial | exact dg_name _ (by decide) | with_reducible exact dg_nil | with_reducible apply dg_cons | with_reducible apply dg_tup | ((with_reducible show List.length _ = _); rfl)))
local macro_rules | `(tactic| walk_at "de") => `(tactic| repeat' walk_at "d1")
local macro_rules | `(tactic| walk_at "ret") => `(tactic| (apply ds_ret; apply deo; walk_at "de"))
local macro_rules | `(tactic| walk_at "asg") => `(tactic| (apply ds_seq; apply ds_asg; apply deo; walk_at "de"))
local macro_rules | `(tactic| walk_at "drop") => `(tactic| (apply ds_seq; apply ds_drop; apply deo; walk_at "de"))
local macro_rules | `(tactic| walk_at "par") => `(tactic| (apply ds_seq; apply ds_par; apply dao; walk_at "de"))
local macro_rules | `(tactic| walk_at "parG") => `(tactic| (apply ds_seq; apply ds_asgG; apply deo; walk_at "de"; walk_at "dg"))
local macro_rules | `(tactic| walk_at "lc") => `(tactic| first | with_reducible exact lookC_hit | with_reducible exact lookC_nil | ((with_reducible refine lookC_miss (by decide +kernel) ?_); walk_at "lc"))
local macro_rules | `(tactic| walk_at "pc") => `(tactic| first | with_reducible exact putC_hit | with_reducible exact putC_nil | ((with_reducible apply putC_miss); (decide +kernel); (walk_at "pc")))
local macro_rules | `(tactic| walk_at "cl") => `(tactic| first | with_reducible exact Tx.c_Band _ | with_reducible exact Tx.i_Band _ | with_reducible exact Tx.n_Band_lows _ | with_reducible exact Tx.n_Band_highs _ | with_reducible exact Tx.c_Barred _ | with_reducible exact Tx.i_Barred _ | with_reducible exact Tx.n_Barred_first _ | with_reducible exact Tx.n_Barred_second _ | with_reducible exact Tx.c_Evened _ | with_reducible exact Tx.i_Evened _ | with_reducible exact Tx.n_Evened_row _ | with_reducible exact Tx.n_Evened_first _ | with_reducible exact Tx.n_Evened_second _ | with_reducible exact Tx.c_Squared _ | with_reducible exact Tx.i_Squared _ | with_reducible exact Tx.n_Squared_row _ | with_reducible exact Tx.c_Summed _ | with_reducible exact Tx.i_Summed _ | with_reducible exact Tx.n_Summed_row _ | with_reducible exact Tx.n_Summed_pulls _ | with_reducible exact Tx.is_Band_Barred _ | with_reducible exact Tx.is_Band_Evened _ | with_reducible exact Tx.is_Band_Squared _ | with_reducible exact Tx.is_Band_Summed _ | with_reducible exact Tx.is_Barred_Band _ | with_reducible exact Tx.is_Barred_Evened _ | with_reducible exact Tx.is_Barred_Squared _ | with_reducible exact Tx.is_Barred_Summed _ | with_reducible exact Tx.is_Evened_Band _ | with_reducible exact Tx.is_Evened_Barred _ | with_reducible exact Tx.is_Evened_Squared _ | with_reducible exact Tx.is_Evened_Summed _ | with_reducible exact Tx.is_Squared_Band _ | with_reducible exact Tx.is_Squared_Barred _ | with_reducible exact Tx.is_Squared_Evened _ | with_reducible exact Tx.is_Squared_Summed _ | with_reducible exact Tx.is_Summed_Band _ | with_reducible exact Tx.is_Summed_Barred _ | with_reducible exact Tx.is_Summed_Evened _ | with_reducible exact Tx.is_Summed_Squared _| with_reducible exact (Tx.i_Band _).me | with_reducible exact (Tx.i_Barred _).me | with_reducible exact (Tx.i_Evened _).me | with_reducible exact (Tx.i_Squared _).me | with_reducible exact (Tx.i_Summed _).me)
local macro_rules | `(tactic| walk_at "d1") => `(tactic| first | exact c_common | with_reducible apply c_is_number)
local macro_rules | `(tactic| walk_at "d1") => `(tactic| with_reducible apply c_lowest)
local macro_rules | `(tactic| walk_at "d1") => `(tactic| with_reducible apply c_are_numbers)
local macro_rules | `(tactic| walk_at "d1") => `(tactic| with_reducible apply c_check_numbers)
local macro_rules | `(tactic| walk_at "d1") => `(tactic| with_reducible apply c_check_row)
local macro_rules | `(tactic| walk_at "d1") => `(tactic| with_reducible apply c_check_weights)
local macro_rules | `(tactic| walk_at "d1") => `(tactic| with_reducible apply c_greatest_of)
local macro_rules | `(tactic| walk_at "d1") => `(tactic| with_reducible apply c_sum_of)
local macro_rules | `(tactic| walk_at "d1") => `(tactic| first | with_reducible apply c_greatest | with_reducible apply c_summed_up | with_reducible exact c_is_fraction)
/-! ## the law's own helpers -/
abbrev R__law_common := R_common
theorem ok__law_common (T : Tx K mg base) : FnOk P w K mg base CX0 1 T.a__law_common T.d__law_common ["_law_one", "_law_other"] (spR K 2 R__law_common) := by
  refine pure_ok T.F__law_common sc__law_common rfl (fun cdv A outer s H E hr => ?_)
  have nd := sc__law_common.nd
  have hu := hr.units
  refine ⟨_, (pss_cons (ps_par (i := 0) (j := 1) rfl nd rfl rfl (by decide) rfl rfl (pa_cons (pe_callB call_abs (by rfl) T.m_abs bt_abs (pa_cons (pv 0) pa_nil)) (pa_cons (pe_callB call_abs (by rfl) T.m_abs bt_abs (pa_cons (pv 1) pa_nil)) pa_nil)) (by rfl))
      (pss_cons (ps_while PassesOwn.never (pt_cmpR op_gt (pv 1) pe_int (nomark _)) (pss_one (ps_par (i := 0) (j := 1) rfl nd rfl rfl (by decide) rfl rfl (pa_cons (pv 1) (pa_cons (pe_op op_mod (pv 0) (pv 1)) pa_nil)) (by rfl))))
      (pss_one (ps_ret (pv 0))))), fun ds d h => ?_⟩
  obtain ⟨a, b, rfl, rfl⟩ := h
  change DS _ _ [B.im _, B.im _] _
  refine ds_seq ?_
  refine' ds_par 0 1 (dao ?_) ?_
  walk_at "de"
  refine ds_seq (ds_while (fun m Γ' => ∃ x y : Int, Γ' = [.im (.int x), .im (.int y)] ∧ 0 ≤ x ∧ 0 ≤ y ∧ m = y.toNat ∧ Int.gcd x y = Int.gcd a b) _ ⟨absI a, absI b, rfl, ?_, ?_, rfl, ?_⟩ ?_)
  · rw [absI_nat]
    omega
  · rw [absI_nat]
    omega
  · rw [absI_nat, absI_nat]
    unfold Int.gcd
    rw [Int.natAbs_natCast, Int.natAbs_natCast]
  · rintro m Γ' ⟨x, y, rfl, hx, hy, rfl, hg⟩
    refine ⟨decide (0 < y), dto ?_, fun hb => ?_, fun hb => ?_⟩
    · walk_at "de"
    · have h0 : 0 < y := of_decide_eq_true hb
      refine' ds_par 0 1 (dao ?_) ?_
      walk_at "de"
      · exact h0
      · have h1 := Int.emod_nonneg x (show y ≠ 0 by omega)
        have h2 := Int.emod_lt_of_pos x h0
        exact ⟨(x % y).toNat, by omega, y, x % y, rfl, hy, h1, rfl, by rw [gcd_turn x y, hg]⟩
    · have h0 : y = 0 := by
        have := of_decide_eq_false hb
        omega
      subst h0
      walk_at "ret"
      show D.int x = D.int _
      rw [← hg, Int.gcd_zero_right, Int.natAbs_of_nonneg hx]
abbrev R__law_low := R_lowest
theorem ok__law_low (T : Tx K mg base) : FnOk P w K mg base CX0 2 T.a__law_low T.d__law_low ["_law_above", "_law_below"] (spR K 2 R__law_low) := by
  refine pure_ok T.F__law_low sc__law_low rfl (fun cdv A outer s H E hr => ?_)
  have nd := sc__law_low.nd
  have hu := hr.units
  refine ⟨_, (pss_cons (ps_set (i := 2) nd rfl (by first | exact Or.inl rfl | exact Or.inr rfl) (pe_call (ok__law_common T) (hr.mono (by decide)) (by rfl) T.g__law_common T.F__law_common.kp T.b__law_common .nil pass0 (pa_cons (pv 0) (pa_cons (pv 1) pa_nil))))
      (pss_one (ps_ret (pe_tup (pa_cons (pe_op op_fdivW (pv 0) (pv 2)) (pa_cons (pe_op op_fdivW (pv 1) (pv 2)) pa_nil)))))), fun ds d h => ?_⟩
  obtain ⟨a, b, rfl, h0, h1, rfl⟩ := h
  change DS _ _ [B.im _, B.im _, B.no] _
  walk_at "asg"
  have hg : CDivW b (Int.gcd a b) := (h1.le (by have := gcd_pos (a := a) h0; have := gcd_le (a := a) h0; omega)).divok (gcd_pos h0) (by decide)
  walk_at "ret"
  · exact hg
  · exact hg
  · show D.tup _ = qd _
    unfold qd
    rw [frac_num h0, frac_den h0]
abbrev R__law_sum := R_plus
theorem ok__law_sum (T : Tx K mg base) : FnOk P w K mg base CX0 3 T.a__law_sum T.d__law_sum ["_law_one", "_law_other"] (spR K 2 R__law_sum) := by
  refine pure_ok T.F__law_sum sc__law_sum rfl (fun cdv A outer s H E hr => ?_)
  have nd := sc__law_sum.nd
  have hu := hr.units
  refine ⟨_, (pss_one (ps_ret (pe_call (ok__law_low T) (hr.mono (by decide)) (by rfl) T.g__law_low T.F__law_low.kp T.b__law_low .nil pass0 (pa_cons (pe_op (addK K) (pe_op (mulK K) (pe_ix (ixK K) (pv 0) pe_int (fun _ _ => rfl)) (pe_ix (ixK K) (pv 1) pe_int (fun _ _ => rfl))) (pe_op (mulK K) (pe_ix (ixK K) (pv 1) pe_int (fun _ _ => rfl)) (pe_ix (ixK K) (pv 0) pe_int (fun _ _ => rfl)))) (pa_cons (pe_op (mulK K) (pe_ix (ixK K) (pv 0) pe_int (fun _ _ => rfl)) (pe_ix (ixK K) (pv 1) pe_int (fun _ _ => rfl))) pa_nil))))), fun ds d h => ?_⟩
  obtain ⟨a, b, a', b', n, m, n', m', rfl, hb, hb', fa, fb, fa', fb', h1, h2, h3, rfl⟩ := h
  change DS _ _ [B.im _, B.im _] _
  walk_at "ret"
  · exact fa.mulok fb' h1
  · exact fa'.mulok fb h2
  · exact fb.mulok fb' (by omega)
  · exact Int.mul_pos hb hb'
  · exact (fb.mul fb').mono h3
  · show qd _ = qd _
    rw [frac_plus hb hb']

end
end U

namespace U
open PySem PySem.Spec PyProof.Rows L2 DL
section
variable {P : Program} {w : World} {K : PySem.W.Frag} {mg : Str → Option Value} {base : Heap}
local macro_rules | `(tactic| walk_at "lk") => `(tactic| first | with_reducible exact look_hit | ((with_reducible refine look_miss (by decide +kernel) ?_); walk_at "lk") | with_reducible exact look_nil)
local macro_rules | `(tactic| walk_at "fz") => `(tactic| simp only [fz, fzB, chF, Ch.d, List.map, List.set])
local macro_rules | `(tactic| walk_at "ob") => `(tactic| first
  | ((with_reducible show look _ _ = _); walk_at "lk")
  | with_reducible apply de_callO | ((with_reducible show B.d _ = _); rfl) | ((with_reducible apply de_either1); (with_reducible apply de_meth); exact de_var rfl) | ((with_reducible apply de_either2); (with_reducible apply de_meth); exact de_var rfl)
  | with_reducible exact de_cls | with_reducible apply de_fld | with_reducible apply rc_isC | with_reducible apply de_meth
  | walk_at "cl")
local macro_rules | `(tactic| walk_at "r2") => `(tactic| (fail_if_success (with_reducible show R2D _ _ D.non _ _)); (fail_if_success (with_reducible show R2D _ _ _ D.non _)); first
  | exact r2_add | exact r2_sub | exact r2_lt | exact r2_le | exact r2_gt | exact r2_ge
  | with_reducible exact r2_p30 | with_reducible exact r2_p9
  | with_reducible apply r2_mod | with_reducible apply r2_fdiv | with_reducible apply r2_mul | with_reducible apply r2_pow | with_reducible apply r2_cat | with_reducible apply r2_rep1
  | exact r2_ixT rfl | exact r2_ixL rfl | with_reducible apply r2_ixN | with_reducible apply r2_ixI
  | exact r2_eqI | exact r2_neI | exact r2_eqB | exact r2_neB | exact r2_eqL | exact r2_neL | exact r2_isB | exact r2_notB)
local macro_rules | `(tactic| walk_at "rc") => `(tactic| (fail_if_success (with_reducible show RCD _ _ [D.non] _)); (fail_if_success (with_reducible show RCD _ _ [D.non, _] _)); (fail_if_success (with_reducible show RCD _ _ [_, D.non] _)); first
  | with_reducible exact rc_srt
  | exact rc_abs | exact rc_max2 | exact rc_min2 | exact rc_sum | exact rc_all | exact rc_any | exact rc_lenL | exact rc_lenT | exact rc_listL | exact rc_listT
  | with_reducible apply rc_int | with_reducible apply rc_bool | with_reducible apply rc_list | with_reducible apply rc_tuple)
local macro_rules | `(tactic| walk_at "d1") => `(tactic| first
  | with_reducible exact de_int | with_reducible exact de_bl | with_reducible exact de_non | exact de_var rfl
  | with_reducible exact da_nil | with_reducible apply da_cons
  | with_reducible apply de_op | with_reducible apply de_un | with_reducible apply de_cb | with_reducible apply de_call
  | with_reducible apply de_tup | with_reducible apply de_lst
  | with_reducible apply de_andV | with_reducible apply de_orV | with_reducible apply de_notV | ((with_reducible show _ = true → _); intro _) | ((with_reducible show _ = false → _); intro _)
  | with_reducible apply dt_and | with_reducible apply dt_or | with_reducible apply dt_not | with_reducible apply dt_test | with_reducible apply dt_B
  | with_reducible apply de_slice | with_reducible exact do_none | with_reducible apply do_some | with_reducible apply de_rev
  | with_reducible apply de_maxD | with_reducible apply de_chain3 | with_reducible apply de_chain
  | walk_at "r2" | walk_at "rc" | walk_at "ob"
  | ((with_reducible show R1D _ _ (D.int _) _); exact r1_neg)
  | with_reducible exact de_ty
  | with_reducible exact ne_int | with_reducible exact ne_lst | with_reducible exact ne_tup | with_reducible exact ne_bl
  | ((with_reducible show List.length _ = _); rfl) | ((with_reducible show List.length _ + 1 = _); rfl)
  | (with_reducible show List.length _ ≤ 1000); exact Nat.le_of_ble_eq_true rfl)
local macro_rules | `(tactic| walk_at "dg") => `(tactic| repeat' (first | exact dg_name _ trivial | exact dg_name _ (by decide) | with_reducible exact dg_nil | with_reducible apply dg_cons | with_reducible apply dg_tup | ((with_reducible show List.length _ = _); rfl)))
local macro_rules | `(tactic| walk_at "de") => `(tactic| repeat' walk_at "d1")
local macro_rules | `(tactic| walk_at "ret") => `(tactic| (apply ds_ret; apply deo; walk_at "de"))
local macro_rules | `(tactic| walk_at "asg") => `(tactic| (apply ds_seq; apply ds_asg; apply deo; walk_at "de"))
local macro_rules | `(tactic| walk_at "drop") => `(tactic| (apply ds_seq; apply ds_drop; apply deo; walk_at "de"))
local macro_rules | `(tactic| walk_at "par") => `(tactic| (apply ds_seq; apply ds_par; apply dao; walk_at "de"))
local macro_rules | `(tactic| walk_at "parG") => `(tactic| (apply ds_seq; apply ds_asgG; apply deo; walk_at "de"; walk_at "dg"))
local macro_rules | `(tactic| walk_at "lc") => `(tactic| first | with_reducible exact lookC_hit | with_reducible exact lookC_nil | ((with_reducible refine lookC_miss (by decide +kernel) ?_); walk_at "lc"))
local macro_rules | `(tactic| walk_at "pc") => `(tactic| first | with_reducible exact putC_hit | with_reducible exact putC_nil | ((with_reducible apply putC_miss); (decide +kernel); (walk_at "pc")))
local macro_rules | `(tactic| walk_at "cl") => `(tactic| first | with_reducible exact Tx.c_Band _ | with_reducible exact Tx.i_Band _ | with_reducible exact Tx.n_Band_lows _ | with_reducible exact Tx.n_Band_highs _ | with_reducible exact Tx.c_Barred _ | with_reducible exact Tx.i_Barred _ | with_reducible exact Tx.n_Barred_first _ | with_reducible exact Tx.n_Barred_second _ | with_reducible exact Tx.c_Evened _ | with_reducible exact Tx.i_Evened _ | with_reducible exact Tx.n_Evened_row _ | with_reducible exact Tx.n_Evened_first _ | with_reducible exact Tx.n_Evened_second _ | with_reducible exact Tx.c_Squared _ | with_reducible exact Tx.i_Squared _ | with_reducible exact Tx.n_Squared_row _ | with_reducible exact Tx.c_Summed _ | with_reducible exact Tx.i_Summed _ | with_reducible exact Tx.n_Summed_row _ | with_reducible exact Tx.n_Summed_pulls _ | with_reducible exact Tx.is_Band_Barred _ | with_reducible exact Tx.is_Band_Evened _ | with_reducible exact Tx.is_Band_Squared _ | with_reducible exact Tx.is_Band_Summed _ | with_reducible exact Tx.is_Barred_Band _ | with_reducible exact Tx.is_Barred_Evened _ | with_reducible exact Tx.is_Barred_Squared _ | with_reducible exact Tx.is_Barred_Summed _ | with_reducible exact Tx.is_Evened_Band _ | with_reducible exact Tx.is_Evened_Barred _ | with_reducible exact Tx.is_Evened_Squared _ | with_reducible exact Tx.is_Evened_Summed _ | with_reducible exact Tx.is_Squared_Band _ | with_reducible exact Tx.is_Squared_Barred _ | with_reducible exact Tx.is_Squared_Evened _ | with_reducible exact Tx.is_Squared_Summed _ | with_reducible exact Tx.is_Summed_Band _ | with_reducible exact Tx.is_Summed_Barred _ | with_reducible exact Tx.is_Summed_Evened _ | with_reducible exact Tx.is_Summed_Squared _| with_reducible exact (Tx.i_Band _).me | with_reducible exact (Tx.i_Barred _).me | with_reducible exact (Tx.i_Evened _).me | with_reducible exact (Tx.i_Squared _).me | with_reducible exact (Tx.i_Summed _).me)
local macro_rules | `(tactic| walk_at "d1") => `(tactic| first | exact c_common | with_reducible apply c_is_number)
local macro_rules | `(tactic| walk_at "d1") => `(tactic| with_reducible apply c_lowest)
local macro_rules | `(tactic| walk_at "d1") => `(tactic| with_reducible apply c_are_numbers)
local macro_rules | `(tactic| walk_at "d1") => `(tactic| with_reducible apply c_check_numbers)
local macro_rules | `(tactic| walk_at "d1") => `(tactic| with_reducible apply c_check_row)
local macro_rules | `(tactic| walk_at "d1") => `(tactic| with_reducible apply c_check_weights)
local macro_rules | `(tactic| walk_at "d1") => `(tactic| with_reducible apply c_greatest_of)
local macro_rules | `(tactic| walk_at "d1") => `(tactic| with_reducible apply c_sum_of)
local macro_rules | `(tactic| walk_at "d1") => `(tactic| first | with_reducible apply c_greatest | with_reducible apply c_summed_up | with_reducible exact c_is_fraction)
def R__law_whole (ds : List D) (d : D) : Prop := ∃ (ns : List Int) (k : Int), ds = [.lst (dI ns), .int k] ∧ ns.length ≤ 1000 ∧ d = .bl (decide ((ns.length : Int) = k))
theorem c__law_whole {ns : List Int} {k : Int} (h : ns.length ≤ 1000) : R__law_whole [.lst (dI ns), .int k] (.bl (decide ((ns.length : Int) = k))) := ⟨_, _, rfl, h, rfl⟩
theorem c__law_whole2 {a b k : Int} : R__law_whole [.lst [.int a, .int b], .int k] (.bl (decide (2 = k))) := ⟨[a, b], _, rfl, Nat.le_of_ble_eq_true rfl, rfl⟩
local macro_rules | `(tactic| walk_at "d1") => `(tactic| first | with_reducible exact c__law_whole2 | with_reducible apply c__law_whole)
/-! ### numbers and weights for each cell -/
def mostOf (s : List Int) : Int := if s.sum % 3 = 0 then 7 else if s.sum % 3 = 1 then 100 else 0
def kindOf (s : List Int) : Int := s.sum / 21 % 3
def raw1 (s : List Int) : List Int := s.map fun c => if 0 < mostOf s then c % mostOf s - mostOf s / 2 else c
def rawOf (s : List Int) : List Int := if mostOf s = 0 ∧ 0 < kindOf s then s.map fun c => c % E30 * (1 - c / E30 % 2 * 2) else raw1 s
def numsOf (s : List Int) : List Int := if s.sum / 3 % 7 = 5 then srt (rawOf s) else if s.sum / 3 % 7 = 6 then (srt (rawOf s)).reverse else rawOf s
theorem most_at (s : List Int) : atI [D.int 7, D.int 100, D.int 0] (s.sum % 3) = some (.int (mostOf s)) := by
  have h1 := Int.emod_nonneg s.sum (show (3 : Int) ≠ 0 by decide)
  have h2 := Int.emod_lt_of_pos s.sum (show (0 : Int) < 3 by decide)
  unfold mostOf
  generalize s.sum % 3 = z at *
  rcases (show z = 0 ∨ z = 1 ∨ z = 2 by omega) with rfl | rfl | rfl <;> rfl
theorem div21 : CDivW x 21 := ⟨by decide, by decide⟩
theorem div3 : CDivW x 3 := ⟨by decide, by decide⟩
theorem div2 : CDivW x 2 := ⟨by decide, by decide⟩
theorem div5 : CDivW x 5 := ⟨by decide, by decide⟩
theorem div7 : CDivW x 7 := ⟨by decide, by decide⟩
theorem div30 : CDivW x E30 := ⟨by decide, by decide⟩
theorem div230 : CDivW x (2 * E30) := ⟨by decide, by decide⟩
theorem pos21 : (0 : Int) < 21 := by decide
theorem pos2 : (0 : Int) < 2 := by decide
theorem pos3 : (0 : Int) < 3 := by decide
theorem pos5 : (0 : Int) < 5 := by decide
theorem pos7 : (0 : Int) < 7 := by decide
theorem pos9 : (0 : Int) < 9 := by decide
theorem pos12 : (0 : Int) < 12 := by decide
theorem posE30 : (0 : Int) < E30 := by decide
theorem posE9 : (0 : Int) < E9 := by decide
theorem mul2 {x : Int} : CMulX x 2 := .inl (.inr ⟨by decide, by decide⟩)
theorem mul2l {x : Int} : CMulX 2 x := .inl (.inl ⟨by decide, by decide⟩)
theorem mul3l {x : Int} : CMulX 3 x := .inl (.inl ⟨by decide, by decide⟩)
local macro_rules | `(tactic| walk_at "d1") => `(tactic| with_reducible first | exact div21 | exact div3 | exact div2 | exact div5 | exact div7 | exact div30 | exact div230 | exact pos21 | exact pos2 | exact pos3 | exact pos5 | exact pos7 | exact pos9 | exact pos12 | exact posE30 | exact posE9 | exact mul2 | exact mul2l | exact mul3l)
def R__law_numbers (ds : List D) (d : D) : Prop := ∃ s : List Int, ds = [.lst (dI s)] ∧ s.length ≤ 63 ∧ d = .lst (dI (numsOf s))
theorem ok__law_numbers (T : Tx K mg base) : FnOk P w K mg base CX0 1 T.a__law_numbers T.d__law_numbers ["_law_script"] (spR K 1 R__law_numbers) := by
  refine pure_ok T.F__law_numbers sc__law_numbers rfl (fun cdv A outer s H E hr => ?_)
  have nd := sc__law_numbers.nd
  have hu := hr.units
  refine ⟨_, (pss_cons (ps_set (i := 1) nd rfl (by first | exact Or.inl rfl | exact Or.inr rfl) (pe_ix (ixK K) (pe_tup (pa_cons pe_int (pa_cons pe_int (pa_cons pe_int pa_nil)))) (pe_op op_mod (pe_callB (sumK K rfl) (by rfl) T.m_sum bt_sum (pa_cons (pv 0) pa_nil)) pe_int) (fun _ _ => rfl)))
      (pss_cons (ps_setLc (i := 2) (own := [("_law_cell", 3)]) (g := (gName 3)) (tt := tYes) rfl nd rfl rfl (sw_true rfl rfl rfl (by decide +kernel)) (pi_listK K (pv 0)) (blkOk_by (own := [("_law_cell", 3)]) (N := N__law_numbers) (sc := defScope s__law_numbers) (by decide +kernel)) (fun _ _ _ _ _ => (pg_name (i := 3) nd rfl (by first | exact Or.inl rfl | exact Or.inr rfl))) (fun _ _ _ _ _ => pts_nil) (fun _ _ _ _ _ => (pe_ifExp (pt_cmpR op_gt (pv 1) pe_int (nomark _)) (pe_op op_sub (pe_op op_mod (pv 3) (pv 1)) (pe_op op_fdivW (pv 1) pe_int)) (pv 3))))
      (pss_cons (ps_if (PW.pt (pw_and (pt_cmpR (eqK K hu) (pv 1) pe_int (nomark _)) (pw_and1 (pt_cmpR op_gt (pe_op op_mod (pe_op op_fdivW (pe_callB (sumK K rfl) (by rfl) T.m_sum bt_sum (pa_cons (pv 0) pa_nil)) pe_int) pe_int) pe_int (nomark _))))) (pss_one (ps_setLc (i := 2) (own := [("_law_cell", 3)]) (g := (gName 3)) (tt := tYes) rfl nd rfl rfl (sw_true rfl rfl rfl (by decide +kernel)) (pi_listK K (pv 0)) (blkOk_by (own := [("_law_cell", 3)]) (N := N__law_numbers) (sc := defScope s__law_numbers) (by decide +kernel)) (fun _ _ _ _ _ => (pg_name (i := 3) nd rfl (by first | exact Or.inl rfl | exact Or.inr rfl))) (fun _ _ _ _ _ => pts_nil) (fun _ _ _ _ _ => (pe_op (mulK K) (pe_op op_mod (pv 3) (pe_op op_pow pe_int pe_int)) (pe_op op_sub pe_int (pe_op (mulK K) (pe_op op_mod (pe_op op_fdivW (pv 3) (pe_op op_pow pe_int pe_int)) pe_int) pe_int)))))) pss_nil)
      (pss_cons (ps_if (pt_cmpR (eqK K hu) (pe_op op_mod (pe_op op_fdivW (pe_callB (sumK K rfl) (by rfl) T.m_sum bt_sum (pa_cons (pv 0) pa_nil)) pe_int) pe_int) pe_int (nomark _)) (pss_one (ps_ret (pe_callB (sortedK K) (by rfl) T.m_sorted bt_sorted (pa_cons (pv 2) pa_nil)))) pss_nil)
      (pss_one (ps_ret (pe_ifExp (pt_cmpR (eqK K hu) (pe_op op_mod (pe_op op_fdivW (pe_callB (sumK K rfl) (by rfl) T.m_sum bt_sum (pa_cons (pv 0) pa_nil)) pe_int) pe_int) pe_int (nomark _)) (revK K (pe_callB (sortedK K) (by rfl) T.m_sorted bt_sorted (pa_cons (pv 2) pa_nil))) (pv 2)))))))), fun ds d h => ?_⟩
  obtain ⟨s, rfl, hl, rfl⟩ := h
  change DS _ _ [B.im _, B.no, B.no, B.no] _
  walk_at "asg"
  · exact r2_ixT (most_at s)
  apply ds_seq
  apply ds_asg
  · apply deo
    apply de_lcI (fun c : Int => if 0 < mostOf s then c % mostOf s - mostOf s / 2 else c) (di_list (de_var rfl)) (by omega)
    intro x hx
    refine ⟨_, dg_name _ (by decide), ?_⟩
    refine de_if (x := decide (0 < mostOf s)) (by walk_at "de") (fun hb => ?_) (fun hb => ?_)
    · have hb' := of_decide_eq_true hb
      rw [if_pos hb']
      walk_at "de"
      exact hb'
    · rw [if_neg (of_decide_eq_false hb)]
      walk_at "de"
  refine ds_cut [.im (.lst (dI s)), .im (.int (mostOf s)), .im (.lst (dI (rawOf s))), .no] ?_ ?_
  · refine ds_if (b := decide (mostOf s = 0 ∧ 0 < kindOf s)) (dto ?_) (fun hb => ?_) (fun hb => ?_)
    · refine' dt_is _ _
      rotate_left
      · walk_at "de"
      · rw [Bool.decide_and]
        rfl
    · apply ds_asg
      · apply deo
        apply de_lcI (fun c : Int => c % E30 * (1 - c / E30 % 2 * 2)) (di_list (de_var rfl)) (by omega)
        intro x hx
        refine ⟨_, dg_name _ (by decide), ?_⟩
        walk_at "de"
        exact .inl (.inr (by
          have h1 := Int.emod_nonneg (x / E30) (show (2 : Int) ≠ 0 by decide)
          have h2 := Int.emod_lt_of_pos (x / E30) (show (0 : Int) < 2 by decide)
          omega))
      · unfold rawOf
        rw [if_pos (of_decide_eq_true hb)]
        rfl
    · apply ds_next
      unfold rawOf
      rw [if_neg (of_decide_eq_false hb)]
      rfl
  apply ds_seq
  refine ds_if (b := decide (s.sum / 3 % 7 = 5)) (dto ?_) (fun hb => ?_) (fun hb => ?_)
  · walk_at "de"
  · walk_at "ret"
    show D.lst _ = D.lst _
    unfold numsOf
    rw [if_pos (of_decide_eq_true hb)]
  · apply ds_next
    apply ds_ret
    · apply deo
      refine de_if (x := decide (s.sum / 3 % 7 = 6)) (d := .lst (dI (numsOf s))) (by walk_at "de") (fun hb2 => ?_) (fun hb2 => ?_)
      · refine' de_is (f := .lst (dI (numsOf s))) _ _
        rotate_left
        · walk_at "de"
        · unfold numsOf
          rw [if_neg (of_decide_eq_false hb), if_pos (of_decide_eq_true hb2)]
          exact congrArg D.lst List.map_reverse.symm
      · refine' de_is _ _
        rotate_left
        · walk_at "de"
        · unfold numsOf
          rw [if_neg (of_decide_eq_false hb), if_neg (of_decide_eq_false hb2)]
    · rfl
end
end U

namespace U
open PySem PySem.Spec PyProof.Rows L2 DL
section
variable {P : Program} {w : World} {K : PySem.W.Frag} {mg : Str → Option Value} {base : Heap}
local macro_rules | `(tactic| walk_at "lk") => `(tactic| first | with_reducible exact look_hit | ((with_reducible refine look_miss (by decide +kernel) ?_); walk_at "lk") | with_reducible exact look_nil)
local macro_rules | `(tactic| walk_at "fz") => `(tactic| simp only [fz, fzB, chF, Ch.d, List.map, List.set])
local macro_rules | `(tactic| walk_at "ob") => `(tactic| first
  | ((with_reducible show look _ _ = _); walk_at "lk")
  | with_reducible apply de_callO | ((with_reducible show B.d _ = _); rfl) | ((with_reducible apply de_either1); (with_reducible apply de_meth); exact de_var rfl) | ((with_reducible apply de_either2); (with_reducible apply de_meth); exact de_var rfl)
  | with_reducible exact de_cls | with_reducible apply de_fld | with_reducible apply rc_isC | with_reducible apply de_meth
  | walk_at "cl")
local macro_rules | `(tactic| walk_at "r2") => `(tactic| (fail_if_success (with_reducible show R2D _ _ D.non _ _)); (fail_if_success (with_reducible show R2D _ _ _ D.non _)); first
  | exact r2_add | exact r2_sub | exact r2_lt | exact r2_le | exact r2_gt | exact r2_ge
  | with_reducible exact r2_p30 | with_reducible exact r2_p9
  | with_reducible apply r2_mod | with_reducible apply r2_fdiv | with_reducible apply r2_mul | with_reducible apply r2_pow | with_reducible apply r2_cat | with_reducible apply r2_rep1
  | exact r2_ixT rfl | exact r2_ixL rfl | with_reducible apply r2_ixN | with_reducible apply r2_ixI
  | exact r2_eqI | exact r2_neI | exact r2_eqB | exact r2_neB | exact r2_eqL | exact r2_neL | exact r2_isB | exact r2_notB)
local macro_rules | `(tactic| walk_at "rc") => `(tactic| (fail_if_success (with_reducible show RCD _ _ [D.non] _)); (fail_if_success (with_reducible show RCD _ _ [D.non, _] _)); (fail_if_success (with_reducible show RCD _ _ [_, D.non] _)); first
  | with_reducible exact rc_srt
  | exact rc_abs | exact rc_max2 | exact rc_min2 | exact rc_sum | exact rc_all | exact rc_any | exact rc_lenL | exact rc_lenT | exact rc_listL | exact rc_listT
  | with_reducible apply rc_int | with_reducible apply rc_bool | with_reducible apply rc_list | with_reducible apply rc_tuple)
local macro_rules | `(tactic| walk_at "d1") => `(tactic| first
  | with_reducible exact de_int | with_reducible exact de_bl | with_reducible exact de_non | exact de_var rfl
  | with_reducible exact da_nil | with_reducible apply da_cons
  | with_reducible apply de_op | with_reducible apply de_un | with_reducible apply de_cb | with_reducible apply de_call
  | with_reducible apply de_tup | with_reducible apply de_lst
  | with_reducible apply de_andV | with_reducible apply de_orV | with_reducible apply de_notV | ((with_reducible show _ = true → _); intro _) | ((with_reducible show _ = false → _); intro _)
  | with_reducible apply dt_and | with_reducible apply dt_or | with_reducible apply dt_not | with_reducible apply dt_test | with_reducible apply dt_B
  | with_reducible apply de_slice | with_reducible exact do_none | with_reducible apply do_some | with_reducible apply de_rev
  | with_reducible apply de_maxD | with_reducible apply de_chain3 | with_reducible apply de_chain
  | walk_at "r2" | walk_at "rc" | walk_at "ob"
  | ((with_reducible show R1D _ _ (D.int _) _); exact r1_neg)
  | with_reducible exact de_ty
  | with_reducible exact ne_int | with_reducible exact ne_lst | with_reducible exact ne_tup | with_reducible exact ne_bl
  | ((with_reducible show List.length _ = _); rfl) | ((with_reducible show List.length _ + 1 = _); rfl)
  | (with_reducible show List.length _ ≤ 1000); exact Nat.le_of_ble_eq_true rfl)
local macro_rules | `(tactic| walk_at "dg") => `(tactic| repeat' (first | exact dg_name _ trivial | exact dg_name _ (by decide) | with_reducible exact dg_nil | with_reducible apply dg_cons | with_reducible apply dg_tup | ((with_reducible show List.length _ = _); rfl)))
local macro_rules | `(tactic| walk_at "de") => `(tactic| repeat' walk_at "d1")
local macro_rules | `(tactic| walk_at "ret") => `(tactic| (apply ds_ret; apply deo; walk_at "de"))
local macro_rules | `(tactic| walk_at "asg") => `(tactic| (apply ds_seq; apply ds_asg; apply deo; walk_at "de"))
local macro_rules | `(tactic| walk_at "drop") => `(tactic| (apply ds_seq; apply ds_drop; apply deo; walk_at "de"))
local macro_rules | `(tactic| walk_at "par") => `(tactic| (apply ds_seq; apply ds_par; apply dao; walk_at "de"))
local macro_rules | `(tactic| walk_at "parG") => `(tactic| (apply ds_seq; apply ds_asgG; apply deo; walk_at "de"; walk_at "dg"))
local macro_rules | `(tactic| walk_at "lc") => `(tactic| first | with_reducible exact lookC_hit | with_reducible exact lookC_nil | ((with_reducible refine lookC_miss (by decide +kernel) ?_); walk_at "lc"))
local macro_rules | `(tactic| walk_at "pc") => `(tactic| first | with_reducible exact putC_hit | with_reducible exact putC_nil | ((with_reducible apply putC_miss); (decide +kernel); (walk_at "pc")))
local macro_rules | `(tactic| walk_at "cl") => `(tactic| first | with_reducible exact Tx.c_Band _ | with_reducible exact Tx.i_Band _ | with_reducible exact Tx.n_Band_lows _ | with_reducible exact Tx.n_Band_highs _ | with_reducible exact Tx.c_Barred _ | with_reducible exact Tx.i_Barred _ | with_reducible exact Tx.n_Barred_first _ | with_reducible exact Tx.n_Barred_second _ | with_reducible exact Tx.c_Evened _ | with_reducible exact Tx.i_Evened _ | with_reducible exact Tx.n_Evened_row _ | with_reducible exact Tx.n_Evened_first _ | with_reducible exact Tx.n_Evened_second _ | with_reducible exact Tx.c_Squared _ | with_reducible exact Tx.i_Squared _ | with_reducible exact Tx.n_Squared_row _ | with_reducible exact Tx.c_Summed _ | with_reducible exact Tx.i_Summed _ | with_reducible exact Tx.n_Summed_row _ | with_reducible exact Tx.n_Summed_pulls _ | with_reducible exact Tx.is_Band_Barred _ | with_reducible exact Tx.is_Band_Evened _ | with_reducible exact Tx.is_Band_Squared _ | with_reducible exact Tx.is_Band_Summed _ | with_reducible exact Tx.is_Barred_Band _ | with_reducible exact Tx.is_Barred_Evened _ | with_reducible exact Tx.is_Barred_Squared _ | with_reducible exact Tx.is_Barred_Summed _ | with_reducible exact Tx.is_Evened_Band _ | with_reducible exact Tx.is_Evened_Barred _ | with_reducible exact Tx.is_Evened_Squared _ | with_reducible exact Tx.is_Evened_Summed _ | with_reducible exact Tx.is_Squared_Band _ | with_reducible exact Tx.is_Squared_Barred _ | with_reducible exact Tx.is_Squared_Evened _ | with_reducible exact Tx.is_Squared_Summed _ | with_reducible exact Tx.is_Summed_Band _ | with_reducible exact Tx.is_Summed_Barred _ | with_reducible exact Tx.is_Summed_Evened _ | with_reducible exact Tx.is_Summed_Squared _| with_reducible exact (Tx.i_Band _).me | with_reducible exact (Tx.i_Barred _).me | with_reducible exact (Tx.i_Evened _).me | with_reducible exact (Tx.i_Squared _).me | with_reducible exact (Tx.i_Summed _).me)
local macro_rules | `(tactic| walk_at "d1") => `(tactic| first | exact c_common | with_reducible apply c_is_number)
local macro_rules | `(tactic| walk_at "d1") => `(tactic| with_reducible apply c_lowest)
local macro_rules | `(tactic| walk_at "d1") => `(tactic| with_reducible apply c_are_numbers)
local macro_rules | `(tactic| walk_at "d1") => `(tactic| with_reducible apply c_check_numbers)
local macro_rules | `(tactic| walk_at "d1") => `(tactic| with_reducible apply c_check_row)
local macro_rules | `(tactic| walk_at "d1") => `(tactic| with_reducible apply c_check_weights)
local macro_rules | `(tactic| walk_at "d1") => `(tactic| with_reducible apply c_greatest_of)
local macro_rules | `(tactic| walk_at "d1") => `(tactic| with_reducible apply c_sum_of)
local macro_rules | `(tactic| walk_at "d1") => `(tactic| first | with_reducible apply c_greatest | with_reducible apply c_summed_up | with_reducible exact c_is_fraction)
local macro_rules | `(tactic| walk_at "d1") => `(tactic| first | with_reducible exact c__law_whole2 | with_reducible apply c__law_whole)
local macro_rules | `(tactic| walk_at "d1") => `(tactic| with_reducible first | exact div21 | exact div3 | exact div2 | exact div5 | exact div7 | exact div30 | exact div230 | exact pos21 | exact pos2 | exact pos3 | exact pos5 | exact pos7 | exact pos9 | exact pos12 | exact posE30 | exact posE9 | exact mul2 | exact mul2l | exact mul3l)
def restOf (c : Int) : Int := c / 7 + c / (2 * E30)
def wOf (s : List Int) : List Int := s.map fun c => if kindOf s = 0 then 1 else if kindOf s = 1 then 1 + restOf c % 5 else 1 + restOf c % E9
theorem kind_lt (s : List Int) : 0 ≤ kindOf s ∧ kindOf s < 3 := ⟨Int.emod_nonneg _ (by decide), Int.emod_lt_of_pos _ (by decide)⟩
theorem kind_at (s : List Int) (a b c : Int) : atI [D.int a, D.int b, D.int c] (s.sum / 21 % 3) = some (.int (if kindOf s = 0 then a else if kindOf s = 1 then b else c)) := by
  have h := kind_lt s
  unfold kindOf at *
  generalize s.sum / 21 % 3 = z at *
  rcases (show z = 0 ∨ z = 1 ∨ z = 2 by omega) with rfl | rfl | rfl <;> rfl
theorem wOf_len (s : List Int) : (wOf s).length = s.length := List.length_map ..
theorem wOf_wts (s : List Int) : Wts (wOf s) := fun w hw => by
  unfold wOf at hw
  obtain ⟨c, _, rfl⟩ := List.mem_map.mp hw
  have h1 := Int.emod_nonneg (restOf c) (show (5 : Int) ≠ 0 by decide)
  have h2 := Int.emod_lt_of_pos (restOf c) (show (0 : Int) < 5 by decide)
  have h3 := Int.emod_nonneg (restOf c) (show E9 ≠ 0 by decide)
  have h4 := Int.emod_lt_of_pos (restOf c) (show 0 < E9 by decide)
  unfold E9 at *
  split
  · exact ⟨by decide, by decide⟩
  split <;> omega
def R__law_weights (ds : List D) (d : D) : Prop := ∃ s : List Int, ds = [.lst (dI s)] ∧ s.length ≤ 63 ∧ d = .lst (dI (wOf s))
theorem ok__law_weights (T : Tx K mg base) : FnOk P w K mg base CX0 1 T.a__law_weights T.d__law_weights ["_law_script"] (spR K 1 R__law_weights) := by
  refine pure_ok T.F__law_weights sc__law_weights rfl (fun cdv A outer s H E hr => ?_)
  have nd := sc__law_weights.nd
  have hu := hr.units
  refine ⟨_, (pss_cons (ps_set (i := 1) nd rfl (by first | exact Or.inl rfl | exact Or.inr rfl) (pe_op op_mod (pe_op op_fdivW (pe_callB (sumK K rfl) (by rfl) T.m_sum bt_sum (pa_cons (pv 0) pa_nil)) pe_int) pe_int))
      (pss_cons (ps_setLc (i := 2) (own := [("_law_cell", 3)]) (g := (gName 3)) (tt := tYes) rfl nd rfl rfl (sw_true rfl rfl rfl (by decide +kernel)) (pi_listK K (pv 0)) (blkOk_by (own := [("_law_cell", 3)]) (N := N__law_weights) (sc := defScope s__law_weights) (by decide +kernel)) (fun _ _ _ _ _ => (pg_name (i := 3) nd rfl (by first | exact Or.inl rfl | exact Or.inr rfl))) (fun _ _ _ _ _ => pts_nil) (fun _ _ _ _ _ => (pe_op (addK K) (pe_op op_fdivW (pv 3) pe_int) (pe_op op_fdivW (pv 3) (pe_op (mulK K) pe_int (pe_op op_pow pe_int pe_int))))))
      (pss_one (ps_ret (pe_lc (own := [("_law_rest", 4)]) (g := (gName 4)) (tt := tYes) rfl nd (pi_listK K (pv 2)) (blkOk_by (own := [("_law_rest", 4)]) (N := N__law_weights) (sc := defScope s__law_weights) (by decide +kernel)) (fun _ _ _ _ _ => (pg_name (i := 4) nd rfl (by first | exact Or.inl rfl | exact Or.inr rfl))) (fun _ _ _ _ _ => pts_nil) (fun _ _ _ _ _ => (pe_ix (ixK K) (pe_tup (pa_cons pe_int (pa_cons (pe_op (addK K) pe_int (pe_op op_mod (pv 4) pe_int)) (pa_cons (pe_op (addK K) pe_int (pe_op op_mod (pv 4) (pe_op op_pow pe_int pe_int))) pa_nil)))) (pv 1) (fun _ _ => rfl)))))))), fun ds d h => ?_⟩
  obtain ⟨s, rfl, hl, rfl⟩ := h
  change DS _ _ [B.im _, B.no, B.no, B.no, B.no] _
  walk_at "asg"
  apply ds_seq
  apply ds_asg
  · apply deo
    apply de_lcI restOf (di_list (de_var rfl)) (by omega)
    intro x hx
    refine ⟨_, dg_name _ (by decide), ?_⟩
    refine' de_is _ _
    rotate_left
    · walk_at "de"
    · rfl
  apply ds_ret
  · apply deo
    apply de_lcI (fun r : Int => if kindOf s = 0 then 1 else if kindOf s = 1 then 1 + r % 5 else 1 + r % E9) (di_list (de_var rfl)) (by rw [List.length_map]; omega)
    intro x hx
    refine ⟨_, dg_name _ (by decide), ?_⟩
    walk_at "de"
    exact r2_ixT (kind_at s _ _ _)
  · show D.lst _ = D.lst _
    unfold wOf
    rw [List.map_map]
    rfl
abbrev R__law_is_fraction := R_is_fraction
theorem c__law_numbers {s : List Int} (h : s.length ≤ 63) : R__law_numbers [.lst (dI s)] (.lst (dI (numsOf s))) := ⟨_, rfl, h, rfl⟩
theorem c__law_weights {s : List Int} (h : s.length ≤ 63) : R__law_weights [.lst (dI s)] (.lst (dI (wOf s))) := ⟨_, rfl, h, rfl⟩
local macro_rules | `(tactic| walk_at "d1") => `(tactic| first | with_reducible apply c__law_numbers | with_reducible apply c__law_weights)
/-- what is known of the numbers -/
theorem raw_len (s : List Int) : (rawOf s).length = s.length := by
  unfold rawOf raw1
  split <;> rw [List.length_map]
theorem nums_len (s : List Int) : (numsOf s).length = s.length := by
  unfold numsOf
  split
  · rw [srt_len, raw_len]
  split
  · rw [List.length_reverse, srt_len, raw_len]
  · exact raw_len s
theorem raw_fit (s : List Int) (h : ∀ c ∈ s, Fit 1048577 c) : ∀ c ∈ rawOf s, Fit 1048577 c := fun c hc => by
  unfold rawOf at hc
  split at hc
  · obtain ⟨x, _, rfl⟩ := List.mem_map.mp hc
    have h1 := Int.emod_nonneg x (show E30 ≠ 0 by decide)
    have h2 := Int.emod_lt_of_pos x (show 0 < E30 by decide)
    have h3 := Int.emod_nonneg (x / E30) (show (2 : Int) ≠ 0 by decide)
    have h4 := Int.emod_lt_of_pos (x / E30) (show (0 : Int) < 2 by decide)
    have a : Fit 100 (x % E30) := ⟨by unfold E30 at *; omega⟩
    have b : Fit 10 (1 - x / E30 % 2 * 2) := ⟨by omega⟩
    exact (a.mul b).mono (by decide)
  · unfold raw1 at hc
    obtain ⟨x, hx, rfl⟩ := List.mem_map.mp hc
    split
    · rename_i h0
      have hm : mostOf s = 7 ∨ mostOf s = 100 := by
        unfold mostOf at *
        split
        · exact .inl rfl
        · split
          · exact .inr rfl
          · omega
      have h1 := Int.emod_nonneg x (show mostOf s ≠ 0 by omega)
      have h2 := Int.emod_lt_of_pos x h0
      have a : Fit 10 (x % mostOf s - mostOf s / 2) := ⟨by omega⟩
      exact a.mono (by decide)
    · exact h x hx
theorem nums_fit (s : List Int) (h : ∀ c ∈ s, Fit 1048577 c) : ∀ c ∈ numsOf s, Fit 1048577 c := fun c hc => by
  unfold numsOf at hc
  split at hc
  · exact raw_fit s h c (srt_mem.mp hc)
  split at hc
  · exact raw_fit s h c (srt_mem.mp (List.mem_reverse.mp hc))
  · exact raw_fit s h c hc
end
end U

namespace U
open PySem PySem.Spec PyProof.Rows L2 DL
section
variable {P : Program} {w : World} {K : PySem.W.Frag} {mg : Str → Option Value} {base : Heap}
local macro_rules | `(tactic| walk_at "lk") => `(tactic| first | with_reducible exact look_hit | ((with_reducible refine look_miss (by decide +kernel) ?_); walk_at "lk") | with_reducible exact look_nil)
local macro_rules | `(tactic| walk_at "fz") => `(tactic| simp only [fz, fzB, chF, Ch.d, List.map, List.set])
local macro_rules | `(tactic| walk_at "ob") => `(tactic| first
  | ((with_reducible show look _ _ = _); walk_at "lk")
  | with_reducible apply de_callO | ((with_reducible show B.d _ = _); rfl) | ((with_reducible apply de_either1); (with_reducible apply de_meth); exact de_var rfl) | ((with_reducible apply de_either2); (with_reducible apply de_meth); exact de_var rfl)
  | with_reducible exact de_cls | with_reducible apply de_fld | with_reducible apply rc_isC | with_reducible apply de_meth
  | walk_at "cl")
local macro_rules | `(tactic| walk_at "r2") => `(tactic| (fail_if_success (with_reducible show R2D _ _ D.non _ _)); (fail_if_success (with_reducible show R2D _ _ _ D.non _)); first
  | exact r2_add | exact r2_sub | exact r2_lt | exact r2_le | exact r2_gt | exact r2_ge
  | with_reducible exact r2_p30 | with_reducible exact r2_p9
  | with_reducible apply r2_mod | with_reducible apply r2_fdiv | with_reducible apply r2_mul | with_reducible apply r2_pow | with_reducible apply r2_cat | with_reducible apply r2_rep1
  | exact r2_ixT rfl | exact r2_ixL rfl | with_reducible apply r2_ixN | with_reducible apply r2_ixI
  | exact r2_eqI | exact r2_neI | exact r2_eqB | exact r2_neB | exact r2_eqL | exact r2_neL | exact r2_isB | exact r2_notB)
local macro_rules | `(tactic| walk_at "rc") => `(tactic| (fail_if_success (with_reducible show RCD _ _ [D.non] _)); (fail_if_success (with_reducible show RCD _ _ [D.non, _] _)); (fail_if_success (with_reducible show RCD _ _ [_, D.non] _)); first
  | with_reducible exact rc_srt
  | exact rc_abs | exact rc_max2 | exact rc_min2 | exact rc_sum | exact rc_all | exact rc_any | exact rc_lenL | exact rc_lenT | exact rc_listL | exact rc_listT
  | with_reducible apply rc_int | with_reducible apply rc_bool | with_reducible apply rc_list | with_reducible apply rc_tuple)
local macro_rules | `(tactic| walk_at "d1") => `(tactic| first
  | with_reducible exact de_int | with_reducible exact de_bl | with_reducible exact de_non | exact de_var rfl
  | with_reducible exact da_nil | with_reducible apply da_cons
  | with_reducible apply de_op | with_reducible apply de_un | with_reducible apply de_cb | with_reducible apply de_call
  | with_reducible apply de_tup | with_reducible apply de_lst
  | with_reducible apply de_andV | with_reducible apply de_orV | with_reducible apply de_notV | ((with_reducible show _ = true → _); intro _) | ((with_reducible show _ = false → _); intro _)
  | with_reducible apply dt_and | with_reducible apply dt_or | with_reducible apply dt_not | with_reducible apply dt_test | with_reducible apply dt_B
  | with_reducible apply de_slice | with_reducible exact do_none | with_reducible apply do_some | with_reducible apply de_rev
  | with_reducible apply de_maxD | with_reducible apply de_chain3 | with_reducible apply de_chain
  | walk_at "r2" | walk_at "rc" | walk_at "ob"
  | ((with_reducible show R1D _ _ (D.int _) _); exact r1_neg)
  | with_reducible exact de_ty
  | with_reducible exact ne_int | with_reducible exact ne_lst | with_reducible exact ne_tup | with_reducible exact ne_bl
  | ((with_reducible show List.length _ = _); rfl) | ((with_reducible show List.length _ + 1 = _); rfl)
  | (with_reducible show List.length _ ≤ 1000); exact Nat.le_of_ble_eq_true rfl)
local macro_rules | `(tactic| walk_at "dg") => `(tactic| repeat' (first | exact dg_name _ trivial | exact dg_name _ (by decide) | with_reducible exact dg_nil | with_reducible apply dg_cons | with_reducible apply dg_tup | ((with_reducible show List.length _ = _); rfl)))
local macro_rules | `(tactic| walk_at "de") => `(tactic| repeat' walk_at "d1")
local macro_rules | `(tactic| walk_at "ret") => `(tactic| (apply ds_ret; apply deo; walk_at "de"))
local macro_rules | `(tactic| walk_at "asg") => `(tactic| (apply ds_seq; apply ds_asg; apply deo; walk_at "de"))
local macro_rules | `(tactic| walk_at "drop") => `(tactic| (apply ds_seq; apply ds_drop; apply deo; walk_at "de"))
local macro_rules | `(tactic| walk_at "par") => `(tactic| (apply ds_seq; apply ds_par; apply dao; walk_at "de"))
local macro_rules | `(tactic| walk_at "parG") => `(tactic| (apply ds_seq; apply ds_asgG; apply deo; walk_at "de"; walk_at "dg"))
local macro_rules | `(tactic| walk_at "lc") => `(tactic| first | with_reducible exact lookC_hit | with_reducible exact lookC_nil | ((with_reducible refine lookC_miss (by decide +kernel) ?_); walk_at "lc"))
local macro_rules | `(tactic| walk_at "pc") => `(tactic| first | with_reducible exact putC_hit | with_reducible exact putC_nil | ((with_reducible apply putC_miss); (decide +kernel); (walk_at "pc")))
local macro_rules | `(tactic| walk_at "cl") => `(tactic| first | with_reducible exact Tx.c_Band _ | with_reducible exact Tx.i_Band _ | with_reducible exact Tx.n_Band_lows _ | with_reducible exact Tx.n_Band_highs _ | with_reducible exact Tx.c_Barred _ | with_reducible exact Tx.i_Barred _ | with_reducible exact Tx.n_Barred_first _ | with_reducible exact Tx.n_Barred_second _ | with_reducible exact Tx.c_Evened _ | with_reducible exact Tx.i_Evened _ | with_reducible exact Tx.n_Evened_row _ | with_reducible exact Tx.n_Evened_first _ | with_reducible exact Tx.n_Evened_second _ | with_reducible exact Tx.c_Squared _ | with_reducible exact Tx.i_Squared _ | with_reducible exact Tx.n_Squared_row _ | with_reducible exact Tx.c_Summed _ | with_reducible exact Tx.i_Summed _ | with_reducible exact Tx.n_Summed_row _ | with_reducible exact Tx.n_Summed_pulls _ | with_reducible exact Tx.is_Band_Barred _ | with_reducible exact Tx.is_Band_Evened _ | with_reducible exact Tx.is_Band_Squared _ | with_reducible exact Tx.is_Band_Summed _ | with_reducible exact Tx.is_Barred_Band _ | with_reducible exact Tx.is_Barred_Evened _ | with_reducible exact Tx.is_Barred_Squared _ | with_reducible exact Tx.is_Barred_Summed _ | with_reducible exact Tx.is_Evened_Band _ | with_reducible exact Tx.is_Evened_Barred _ | with_reducible exact Tx.is_Evened_Squared _ | with_reducible exact Tx.is_Evened_Summed _ | with_reducible exact Tx.is_Squared_Band _ | with_reducible exact Tx.is_Squared_Barred _ | with_reducible exact Tx.is_Squared_Evened _ | with_reducible exact Tx.is_Squared_Summed _ | with_reducible exact Tx.is_Summed_Band _ | with_reducible exact Tx.is_Summed_Barred _ | with_reducible exact Tx.is_Summed_Evened _ | with_reducible exact Tx.is_Summed_Squared _| with_reducible exact (Tx.i_Band _).me | with_reducible exact (Tx.i_Barred _).me | with_reducible exact (Tx.i_Evened _).me | with_reducible exact (Tx.i_Squared _).me | with_reducible exact (Tx.i_Summed _).me)
local macro_rules | `(tactic| walk_at "d1") => `(tactic| first | exact c_common | with_reducible apply c_is_number)
local macro_rules | `(tactic| walk_at "d1") => `(tactic| with_reducible apply c_lowest)
local macro_rules | `(tactic| walk_at "d1") => `(tactic| with_reducible apply c_are_numbers)
local macro_rules | `(tactic| walk_at "d1") => `(tactic| with_reducible apply c_check_numbers)
local macro_rules | `(tactic| walk_at "d1") => `(tactic| with_reducible apply c_check_row)
local macro_rules | `(tactic| walk_at "d1") => `(tactic| with_reducible apply c_check_weights)
local macro_rules | `(tactic| walk_at "d1") => `(tactic| with_reducible apply c_greatest_of)
local macro_rules | `(tactic| walk_at "d1") => `(tactic| with_reducible apply c_sum_of)
local macro_rules | `(tactic| walk_at "d1") => `(tactic| first | with_reducible apply c_greatest | with_reducible apply c_summed_up | with_reducible exact c_is_fraction)
local macro_rules | `(tactic| walk_at "d1") => `(tactic| first | with_reducible exact c__law_whole2 | with_reducible apply c__law_whole)
local macro_rules | `(tactic| walk_at "d1") => `(tactic| with_reducible first | exact div21 | exact div3 | exact div2 | exact div5 | exact div7 | exact div30 | exact div230 | exact pos21 | exact pos2 | exact pos3 | exact pos5 | exact pos7 | exact pos9 | exact pos12 | exact posE30 | exact posE9 | exact mul2 | exact mul2l | exact mul3l)
local macro_rules | `(tactic| walk_at "d1") => `(tactic| first | with_reducible apply c__law_numbers | with_reducible apply c__law_weights)
/-! ## rows -/
/-- a row that never falls -/
def up (rs : List Int) : Bool := ((List.range (rs.length - 1)).map fun i => decide (rs.getD i 0 ≤ rs.getD (i + 1) 0)).all id
theorem up_of {rs : List Int} : up rs = true ↔ ∀ i, i + 1 < rs.length → rs.getD i 0 ≤ rs.getD (i + 1) 0 := by
  unfold up
  rw [List.all_eq_true]
  constructor
  · intro h i hi
    exact of_decide_eq_true (h _ (List.mem_map.mpr ⟨i, List.mem_range.mpr (by omega), rfl⟩))
  · intro h x hx
    obtain ⟨i, hi, rfl⟩ := List.mem_map.mp hx
    exact decide_eq_true (h i (by have := List.mem_range.mp hi; omega))
theorem at_I {ns : List Int} {i : Int} {j : Nat} (e : i = (j : Int)) (h : j < ns.length) : atI (dI ns) i = some (.int (ns.getD j 0)) := by
  subst e
  exact at_nat (by
    rw [List.getElem?_map, List.getD_eq_getElem?_getD, List.getElem?_eq_getElem h]
    rfl)
theorem at_neg {xs : List D} {x : D} {n : Nat} (e : xs.length = n + 1) (h : xs[n]? = some x) : atI xs (-1) = some x := by
  unfold atI ixN
  rw [if_neg (by decide), if_pos (by omega), e]
  show xs[(-1 + ((n + 1 : Nat) : Int)).toNat]? = _
  rw [show (-1 + ((n + 1 : Nat) : Int)).toNat = n by omega]
  exact h
def R_rises (ds : List D) (d : D) : Prop := ∃ rs : List Int, ds = [.lst (dI rs)] ∧ rs.length ≤ 1000 ∧ d = .bl (up rs)
theorem ok_rises (T : Tx K mg base) : FnOk P w K mg base CX0 1 T.a_rises T.d_rises ["row"] (spR K 1 R_rises) := by
  refine pure_ok T.F_rises sc_rises rfl (fun cdv A outer s H E hr => ?_)
  have nd := sc_rises.nd
  have hu := hr.units
  refine ⟨_, (pss_one (ps_ret (pe_callB (allK K rfl) (by rfl) T.m_all bt_all (pa_cons (pe_lc (own := [("at", 1)]) (g := (gName 1)) (tt := tYes) rfl nd (pi_range2 (by rfl) T.m_range (pa_cons pe_int (pa_cons (pe_callB (lenK K) (by rfl) T.m_len bt_len (pa_cons (pv 0) pa_nil)) pa_nil))) (blkOk_by (own := [("at", 1)]) (N := N_rises) (sc := defScope s_rises) (by decide +kernel)) (fun _ _ _ _ _ => (pg_name (i := 1) nd rfl (by first | exact Or.inl rfl | exact Or.inr rfl))) (fun _ _ _ _ _ => pts_nil) (fun _ _ _ _ _ => (pe_cmpR op_le (pe_ix (ixK K) (pv 0) (pe_op op_sub (pv 1) pe_int) (fun _ _ => rfl)) (pe_ix (ixK K) (pv 0) (pv 1) (fun _ _ => rfl)) (nomark _)))) pa_nil)))), fun ds d h => ?_⟩
  obtain ⟨rs, rfl, hl, rfl⟩ := h
  change DS _ _ [B.im _, B.no] _
  walk_at "ret"
  · apply de_lcB (fun i : Nat => decide (rs.getD i 0 ≤ rs.getD (i + 1) 0)) (di_rng2 (da_cons de_int (da_cons (de_cb (da_cons (de_var rfl) da_nil) rc_lenL) da_nil)) (by rw [List.length_map]; omega)) (by rw [List.length_range, List.length_map]; omega)
    intro x hx
    have hx' : x + 1 < rs.length := by
      rw [List.length_map] at hx
      have := List.mem_range.mp hx
      omega
    refine ⟨_, dg_name _ (by decide), ?_⟩
    have e1 : atI (dI rs) (1 + (x : Int) - 1) = some (.int (rs.getD x 0)) := by
      exact at_I (by omega) (by omega)
    have e2 : atI (dI rs) (1 + (x : Int)) = some (.int (rs.getD (x + 1) 0)) := by
      exact at_I (by omega) hx'
    refine de_op (de_op (de_var rfl) (de_op (de_var rfl) de_int r2_sub) (r2_ixL e1)) (de_op (de_var rfl) (de_var rfl) (r2_ixL e2)) r2_le
  walk_at "de"
  · show D.bl _ = D.bl (up rs)
    unfold up
    rw [List.length_map, show ((rs.length : Int) - 1).toNat = rs.length - 1 by omega]
theorem c_rises {rs : List Int} (h : rs.length ≤ 1000) : R_rises [.lst (dI rs)] (.bl (up rs)) := ⟨_, rfl, h, rfl⟩
local macro_rules | `(tactic| walk_at "d1") => `(tactic| with_reducible apply c_rises)
/-- the highest so far, place by place -/
def hiAt (ns : List Int) : Nat → Int
  | 0 => ns.getD 0 0
  | i + 1 => if hiAt ns i < ns.getD (i + 1) 0 then ns.getD (i + 1) 0 else hiAt ns i
def hsf (ns : List Int) : List Int := (List.range ns.length).map (hiAt ns)
theorem hsf_len (ns : List Int) : (hsf ns).length = ns.length := by
  unfold hsf
  rw [List.length_map, List.length_range]
theorem range_getD {α : Type} (f : Nat → α) (z : α) {n i : Nat} (h : i < n) : ((List.range n).map f).getD i z = f i := by
  rw [List.getD_eq_getElem?_getD, List.getElem?_map, List.getElem?_range h]
  rfl
theorem hsf_at {ns : List Int} {i : Nat} (h : i < ns.length) : (hsf ns).getD i 0 = hiAt ns i := range_getD _ _ h
def R_highest_so_far (ds : List D) (d : B) : Prop := ∃ ns : List Int, ds = [.lst (dI ns)] ∧ ns.length ≤ 1000 ∧ d = .ow (dI (hsf ns))
theorem dI_snoc (xs : List Int) (x : Int) : dI (xs ++ [x]) = dI xs ++ [D.int x] := List.map_append ..
theorem last_hi (ns : List Int) (i : Nat) : atI (dI ((List.range (i + 1)).map (hiAt ns))) (-1) = some (.int (hiAt ns i)) :=
  at_neg (n := i) (by rw [List.length_map, List.length_map, List.length_range]) (by
    rw [List.getElem?_map, List.getElem?_map, List.getElem?_range (by omega)]
    rfl)
theorem hsf_snoc (ns : List Int) (i : Nat) : dI ((List.range i).map (hiAt ns)) ++ [D.int (hiAt ns i)] = dI ((List.range (i + 1)).map (hiAt ns)) := by
  rw [List.range_succ, List.map_append, List.map_singleton, dI_snoc]
theorem ok_highest_so_far (T : Tx K mg base) : FnOk P w K mg base CX0 1 T.a_highest_so_far T.d_highest_so_far ["numbers"] (spO K 1 R_highest_so_far) := by
  refine pure_okO T.F_highest_so_far sc_highest_so_far rfl (fun cdv A outer s H E hr => ?_)
  have nd := sc_highest_so_far.nd
  have hu := hr.units
  refine ⟨_, (pss_cons (ps_set (i := 1) nd rfl (by first | exact Or.inl rfl | exact Or.inr rfl) (pe_lst pa_nil))
      (pss_cons (ps_for PassesOwn.never rfl (pi_listK K (pv 0)) (pg_name (i := 2) nd rfl (by first | exact Or.inl rfl | exact Or.inr rfl)) (pss_one (ps_if (PW.pt (pw_or (pt_cmpR (eqK K hu) (pv 1) (pe_lst pa_nil) (nomark _)) (pw_or1 (pt_cmpR op_gt (pv 2) (pe_ix (ixK K) (pv 1) (pe_un un_neg pe_int) (fun _ _ => rfl)) (nomark _))))) (pss_one (ps_expr (pe_bm PySem.F.plainAttrs_list PySem.F.slot_list_append PySem.F.type_list_append mt_append (pv 1) (pa_cons (pv 2) pa_nil)))) (pss_one (ps_expr (pe_bm PySem.F.plainAttrs_list PySem.F.slot_list_append PySem.F.type_list_append mt_append (pv 1) (pa_cons (pe_ix (ixK K) (pv 1) (pe_un un_neg pe_int) (fun _ _ => rfl)) pa_nil)))))))
      (pss_one (ps_ret (pv 1))))), fun ds d h => ?_⟩
  obtain ⟨ns, rfl, hl, rfl⟩ := h
  change DS _ _ [B.im _, B.no, B.no] _
  refine ds_seq (ds_own 1 (dao da_nil) (by decide) ?_)
  refine ds_seq ?_
  apply ds_for (I := fun i Γ' => ∃ b2, Γ' = [.im (.lst (dI ns)), .ow (dI ((List.range i).map (hiAt ns))), b2])
  · exact di_list (de_var rfl)
  · exact ⟨_, rfl⟩
  · rintro i d Γ' hd ⟨b2, rfl⟩
    obtain ⟨hi, rfl⟩ := map_get 0 hd
    refine ⟨_, dg_name _ trivial, ?_⟩
    cases i with
    | zero =>
      refine ds_ifT (dto_fz ?_) ?_
      · walk_at "fz"
        exact dt_or (y := true) (dt_test (de_op (de_var rfl) (de_lst da_nil (by decide)) (r2_eqL (a := []) (b := [])))) (fun hb => by cases hb)
      · exact ds_app 1 rfl (deo (de_var rfl)) (Nat.zero_le _) ⟨_, rfl⟩
    | succ i =>
      have hlen : (dI ((List.range (i + 1)).map (hiAt ns))).length ≤ 100000 := by
        rw [List.length_map, List.length_map, List.length_range]
        omega
      refine ds_if (b := decide (((List.range (i + 1)).map (hiAt ns)) = []) || decide (hiAt ns i < ns.getD (i + 1) 0)) (dto_fz ?_) (fun hb => ?_) (fun hb => ?_)
      · walk_at "fz"
        refine dt_or (dt_test (de_op (de_var rfl) (de_lst da_nil (by decide)) (r2_eqL (b := [])))) (fun _ => dt_test (de_op (de_var rfl) (de_op (de_var rfl) (de_un de_int r1_neg) (r2_ixL ?_)) r2_gt))
        exact last_hi ns i
      · have h0 : hiAt ns i < ns.getD (i + 1) 0 := by
          simpa using hb
        refine ds_app 1 rfl (deo (de_var rfl)) hlen ⟨.im (.int (ns.getD (i + 1) 0)), ?_⟩
        have := hsf_snoc ns (i + 1)
        rw [show hiAt ns (i + 1) = ns.getD (i + 1) 0 from if_pos h0] at this
        rw [this]
        rfl
      · have h0 : ¬ hiAt ns i < ns.getD (i + 1) 0 := by
          simpa using hb
        refine ds_app (d := .int (hiAt ns i)) 1 rfl (deo_fz ?_ rfl) hlen ⟨.im (.int (ns.getD (i + 1) 0)), ?_⟩
        · walk_at "fz"
          refine de_op (de_var rfl) (de_un de_int r1_neg) (r2_ixL ?_)
          exact last_hi ns i
        · have := hsf_snoc ns (i + 1)
          rw [show hiAt ns (i + 1) = hiAt ns i from if_neg h0] at this
          rw [this]
          rfl
  · rintro Γ' ⟨b2, rfl⟩
    refine ds_retO 1 rfl (fun z => by cases z) ?_
    rw [List.length_map]
    rfl
theorem c_highest_so_far {ns : List Int} (h : ns.length ≤ 1000) : R_highest_so_far [.lst (dI ns)] (.ow (dI (hsf ns))) := ⟨_, rfl, h, rfl⟩
local macro_rules | `(tactic| walk_at "d1") => `(tactic| with_reducible apply c_highest_so_far)

/-- the places of the worst fall: the loop's three numbers -/
def wstep (ns : List Int) (i : Nat) (w : Nat × Nat × Nat) : Nat × Nat × Nat :=
  (if ns.getD w.1 0 < ns.getD i 0 then i else w.1,
    if ns.getD w.2.1 0 - ns.getD w.2.2 0 < ns.getD (if ns.getD w.1 0 < ns.getD i 0 then i else w.1) 0 - ns.getD i 0 then (if ns.getD w.1 0 < ns.getD i 0 then i else w.1, i) else w.2)
def wp (ns : List Int) : Nat → Nat × Nat × Nat
  | 0 => (0, 0, 0)
  | i + 1 => wstep ns i (wp ns i)
theorem wp_inv (ns : List Int) : ∀ i : Nat, (wp ns (i + 1)).1 ≤ i ∧ ns.getD (wp ns (i + 1)).1 0 = hiAt ns i ∧ (wp ns (i + 1)).2.1 ≤ (wp ns (i + 1)).2.2 ∧ (wp ns (i + 1)).2.2 ≤ i ∧
    ∀ j, j ≤ i → hiAt ns j - ns.getD j 0 ≤ ns.getD (wp ns (i + 1)).2.1 0 - ns.getD (wp ns (i + 1)).2.2 0
  | 0 => by
    have e : wp ns 1 = (0, 0, 0) := by
      show wstep ns 0 (0, 0, 0) = _
      unfold wstep
      simp
    rw [e]
    refine ⟨Nat.le_refl _, rfl, Nat.le_refl _, Nat.le_refl _, fun j hj => ?_⟩
    obtain rfl : j = 0 := by omega
    show ns.getD 0 0 - ns.getD 0 0 ≤ ns.getD 0 0 - ns.getD 0 0
    omega
  | i + 1 => by
    obtain ⟨h1, h2, h3, h4, h5⟩ := wp_inv ns i
    have e : wp ns (i + 1 + 1) = wstep ns (i + 1) (wp ns (i + 1)) := rfl
    rw [e]
    generalize wp ns (i + 1) = w at *
    obtain ⟨t, a, b⟩ := w
    simp only at h1 h2 h3 h4 h5
    have e2 : hiAt ns (i + 1) = if hiAt ns i < ns.getD (i + 1) 0 then ns.getD (i + 1) 0 else hiAt ns i := rfl
    unfold wstep
    simp only
    rw [e2, ← h2]
    by_cases c1 : ns.getD t 0 < ns.getD (i + 1) 0
    · rw [if_pos c1, if_pos c1]
      have top : ∀ j, j ≤ i + 1 → hiAt ns j - ns.getD j 0 ≤ ns.getD a 0 - ns.getD b 0 := fun j hj => by
        rcases Nat.lt_or_ge i j with q | q
        · obtain rfl : j = i + 1 := by omega
          have := h5 0 (by omega)
          rw [e2, ← h2, if_pos c1]
          have z : hiAt ns 0 = ns.getD 0 0 := rfl
          omega
        · exact h5 j q
      have z : hiAt ns 0 = ns.getD 0 0 := rfl
      have := h5 0 (by omega)
      rw [if_neg (by omega)]
      exact ⟨Nat.le_refl _, rfl, h3, by show b ≤ i + 1; omega, top⟩
    · rw [if_neg c1, if_neg c1]
      by_cases c2 : ns.getD a 0 - ns.getD b 0 < ns.getD t 0 - ns.getD (i + 1) 0
      · rw [if_pos c2]
        refine ⟨by show t ≤ i + 1; omega, rfl, by show t ≤ i + 1; omega, Nat.le_refl _, fun j hj => ?_⟩
        rcases Nat.lt_or_ge i j with q | q
        · obtain rfl : j = i + 1 := by omega
          rw [e2, ← h2, if_neg c1]
          exact Int.le_refl _
        · have := h5 j q
          show _ ≤ ns.getD t 0 - ns.getD (i + 1) 0
          omega
      · rw [if_neg c2]
        refine ⟨by show t ≤ i + 1; omega, rfl, h3, by show b ≤ i + 1; omega, fun j hj => ?_⟩
        rcases Nat.lt_or_ge i j with q | q
        · obtain rfl : j = i + 1 := by omega
          rw [e2, ← h2, if_neg c1]
          show _ ≤ ns.getD a 0 - ns.getD b 0
          omega
        · exact h5 j q
theorem wp_lt (ns : List Int) {i : Nat} (h : i < ns.length) : (wp ns i).1 < ns.length ∧ (wp ns i).2.1 < ns.length ∧ (wp ns i).2.2 < ns.length := by
  cases i with
  | zero => exact ⟨h, h, h⟩
  | succ i =>
    obtain ⟨h1, h2, h3, h4, h5⟩ := wp_inv ns i
    omega
def first (ns : List Int) : Nat := (wp ns ns.length).2.1
def second (ns : List Int) : Nat := (wp ns ns.length).2.2
def R_worst_places (ds : List D) (d : D) : Prop := ∃ ns : List Int, ds = [.lst (dI ns)] ∧ ns.length ≤ 1000 ∧ d = .tup [.int (first ns), .int (second ns)]
theorem ok_worst_places (T : Tx K mg base) : FnOk P w K mg base CX0 1 T.a_worst_places T.d_worst_places ["numbers"] (spR K 1 R_worst_places) := by
  refine pure_ok T.F_worst_places sc_worst_places rfl (fun cdv A outer s H E hr => ?_)
  have nd := sc_worst_places.nd
  have hu := hr.units
  refine ⟨_, (pss_cons (ps_set (i := 1) nd rfl (by first | exact Or.inl rfl | exact Or.inr rfl) (pe_tup (pa_cons pe_int (pa_cons pe_int pa_nil))))
      (pss_cons (ps_set (i := 2) nd rfl (by first | exact Or.inl rfl | exact Or.inr rfl) pe_int)
      (pss_cons (ps_for PassesOwn.never rfl (pi_enumK K (by rfl) T.m_enumerate (pa_cons (pv 0) pa_nil)) (pg_tupK (n := 2) K rfl (pgs_cons (pg_name (i := 3) nd rfl (by first | exact Or.inl rfl | exact Or.inr rfl)) (pgs_cons (pg_name (i := 4) nd rfl (by first | exact Or.inl rfl | exact Or.inr rfl)) pgs_nil))) (pss_cons (ps_if (pt_cmpR op_gt (pv 4) (pe_ix (ixK K) (pv 0) (pv 2) (fun _ _ => rfl)) (nomark _)) (pss_one (ps_set (i := 2) nd rfl (by first | exact Or.inl rfl | exact Or.inr rfl) (pv 3))) pss_nil)
      (pss_one (ps_if (pt_cmpR op_gt (pe_op op_sub (pe_ix (ixK K) (pv 0) (pv 2) (fun _ _ => rfl)) (pv 4)) (pe_op op_sub (pe_ix (ixK K) (pv 0) (pe_ix (ixK K) (pv 1) pe_int (fun _ _ => rfl)) (fun _ _ => rfl)) (pe_ix (ixK K) (pv 0) (pe_ix (ixK K) (pv 1) pe_int (fun _ _ => rfl)) (fun _ _ => rfl))) (nomark _)) (pss_one (ps_set (i := 1) nd rfl (by first | exact Or.inl rfl | exact Or.inr rfl) (pe_tup (pa_cons (pv 2) (pa_cons (pv 3) pa_nil))))) pss_nil))))
      (pss_one (ps_ret (pv 1)))))), fun ds d h => ?_⟩
  obtain ⟨ns, rfl, hl, rfl⟩ := h
  change DS _ _ [B.im _, B.no, B.no, B.no, B.no] _
  walk_at "asg"
  walk_at "asg"
  refine ds_seq ?_
  apply ds_for (I := fun i Γ' => ∃ b3 b4, Γ' = [.im (.lst (dI ns)), .im (.tup [.int ((wp ns i).2.1 : Nat), .int ((wp ns i).2.2 : Nat)]), .im (.int ((wp ns i).1 : Nat)), b3, b4])
  · exact di_enum (da_cons (de_var rfl) da_nil)
  · exact ⟨_, _, rfl⟩
  · rintro i d Γ' hd ⟨b3, b4, rfl⟩
    obtain ⟨hi, rfl⟩ := numbered_get 0 hd
    obtain ⟨l1, l2, l3⟩ := wp_lt ns hi
    refine ⟨_, by walk_at "dg", ?_⟩
    apply ds_cut [.im (.lst (dI ns)), .im (.tup [.int ((wp ns i).2.1 : Nat), .int ((wp ns i).2.2 : Nat)]), .im (.int ((if ns.getD (wp ns i).1 0 < ns.getD i 0 then i else (wp ns i).1 : Nat) : Int)), .im (.int (i : Nat)), .im (.int (ns.getD i 0))]
    · refine ds_if (dto (dt_test (de_op (de_var rfl) (de_op (de_var rfl) (de_var rfl) (r2_ixN l1)) r2_gt))) (fun hb => ?_) (fun hb => ?_)
      · apply ds_asg
        · exact deo (de_var rfl)
        · rw [if_pos (of_decide_eq_true hb)]
          rfl
      · rw [if_neg (of_decide_eq_false hb)]
        exact ds_next rfl
    · have l4 : (if ns.getD (wp ns i).1 0 < ns.getD i 0 then i else (wp ns i).1) < ns.length := by
        split
        · exact hi
        · exact l1
      have e : wp ns (i + 1) = wstep ns i (wp ns i) := rfl
      refine ds_if (dto (dt_test (de_op (de_op (de_op (de_var rfl) (de_var rfl) (r2_ixN l4)) (de_var rfl) r2_sub) (de_op (de_op (de_var rfl) (de_op (de_var rfl) de_int (r2_ixT rfl)) (r2_ixN l2)) (de_op (de_var rfl) (de_op (de_var rfl) de_int (r2_ixT rfl)) (r2_ixN l3)) r2_sub) r2_gt))) (fun hb => ?_) (fun hb => ?_)
      · apply ds_asg
        · exact deo (de_tup (da_cons (de_var rfl) (da_cons (de_var rfl) da_nil)) (Nat.le_of_ble_eq_true rfl))
        · rw [e]
          unfold wstep
          simp only
          rw [if_pos (of_decide_eq_true hb)]
          exact ⟨_, _, rfl⟩
      · rw [e]
        unfold wstep
        simp only
        rw [if_neg (of_decide_eq_false hb)]
        exact ds_next ⟨_, _, rfl⟩
  · rintro Γ' ⟨b3, b4, rfl⟩
    walk_at "ret"
    · rw [numbered_len, List.length_map]
      rfl
theorem c_worst_places {ns : List Int} (h : ns.length ≤ 1000) : R_worst_places [.lst (dI ns)] (.tup [.int (first ns), .int (second ns)]) := ⟨_, rfl, h, rfl⟩
local macro_rules | `(tactic| walk_at "d1") => `(tactic| with_reducible apply c_worst_places)
end
end U

namespace U
open PySem PySem.Spec PyProof.Rows L2 DL
section
variable {P : Program} {w : World} {K : PySem.W.Frag} {mg : Str → Option Value} {base : Heap}
local macro_rules | `(tactic| walk_at "lk") => `(tactic| first | with_reducible exact look_hit | ((with_reducible refine look_miss (by decide +kernel) ?_); walk_at "lk") | with_reducible exact look_nil)
local macro_rules | `(tactic| walk_at "fz") => `(tactic| simp only [fz, fzB, chF, Ch.d, List.map, List.set])
local macro_rules | `(tactic| walk_at "ob") => `(tactic| first
  | ((with_reducible show look _ _ = _); walk_at "lk")
  | with_reducible apply de_callO | ((with_reducible show B.d _ = _); rfl) | ((with_reducible apply de_either1); (with_reducible apply de_meth); exact de_var rfl) | ((with_reducible apply de_either2); (with_reducible apply de_meth); exact de_var rfl)
  | with_reducible exact de_cls | with_reducible apply de_fld | with_reducible apply rc_isC | with_reducible apply de_meth
  | walk_at "cl")
local macro_rules | `(tactic| walk_at "r2") => `(tactic| (fail_if_success (with_reducible show R2D _ _ D.non _ _)); (fail_if_success (with_reducible show R2D _ _ _ D.non _)); first
  | exact r2_add | exact r2_sub | exact r2_lt | exact r2_le | exact r2_gt | exact r2_ge
  | with_reducible exact r2_p30 | with_reducible exact r2_p9
  | with_reducible apply r2_mod | with_reducible apply r2_fdiv | with_reducible apply r2_mul | with_reducible apply r2_pow | with_reducible apply r2_cat | with_reducible apply r2_rep1
  | exact r2_ixT rfl | exact r2_ixL rfl | with_reducible apply r2_ixN | with_reducible apply r2_ixI
  | exact r2_eqI | exact r2_neI | exact r2_eqB | exact r2_neB | exact r2_eqL | exact r2_neL | exact r2_isB | exact r2_notB)
local macro_rules | `(tactic| walk_at "rc") => `(tactic| (fail_if_success (with_reducible show RCD _ _ [D.non] _)); (fail_if_success (with_reducible show RCD _ _ [D.non, _] _)); (fail_if_success (with_reducible show RCD _ _ [_, D.non] _)); first
  | with_reducible exact rc_srt
  | exact rc_abs | exact rc_max2 | exact rc_min2 | exact rc_sum | exact rc_all | exact rc_any | exact rc_lenL | exact rc_lenT | exact rc_listL | exact rc_listT
  | with_reducible apply rc_int | with_reducible apply rc_bool | with_reducible apply rc_list | with_reducible apply rc_tuple)
local macro_rules | `(tactic| walk_at "d1") => `(tactic| first
  | with_reducible exact de_int | with_reducible exact de_bl | with_reducible exact de_non | exact de_var rfl
  | with_reducible exact da_nil | with_reducible apply da_cons
  | with_reducible apply de_op | with_reducible apply de_un | with_reducible apply de_cb | with_reducible apply de_call
  | with_reducible apply de_tup | with_reducible apply de_lst
  | with_reducible apply de_andV | with_reducible apply de_orV | with_reducible apply de_notV | ((with_reducible show _ = true → _); intro _) | ((with_reducible show _ = false → _); intro _)
  | with_reducible apply dt_and | with_reducible apply dt_or | with_reducible apply dt_not | with_reducible apply dt_test | with_reducible apply dt_B
  | with_reducible apply de_slice | with_reducible exact do_none | with_reducible apply do_some | with_reducible apply de_rev
  | with_reducible apply de_maxD | with_reducible apply de_chain3 | with_reducible apply de_chain
  | walk_at "r2" | walk_at "rc" | walk_at "ob"
  | ((with_reducible show R1D _ _ (D.int _) _); exact r1_neg)
  | with_reducible exact de_ty
  | with_reducible exact ne_int | with_reducible exact ne_lst | with_reducible exact ne_tup | with_reducible exact ne_bl
  | ((with_reducible show List.length _ = _); rfl) | ((with_reducible show List.length _ + 1 = _); rfl)
  | (with_reducible show List.length _ ≤ 1000); exact Nat.le_of_ble_eq_true rfl)
local macro_rules | `(tactic| walk_at "dg") => `(tactic| repeat' (first | exact dg_name _ trivial | exact dg_name _ (by decide) | with_reducible exact dg_nil | with_reducible apply dg_cons | with_reducible apply dg_tup | ((with_reducible show List.length _ = _); rfl)))
local macro_rules | `(tactic| walk_at "de") => `(tactic| repeat' walk_at "d1")
local macro_rules | `(tactic| walk_at "ret") => `(tactic| (apply ds_ret; apply deo; walk_at "de"))
local macro_rules | `(tactic| walk_at "asg") => `(tactic| (apply ds_seq; apply ds_asg; apply deo; walk_at "de"))
local macro_rules | `(tactic| walk_at "drop") => `(tactic| (apply ds_seq; apply ds_drop; apply deo; walk_at "de"))
local macro_rules | `(tactic| walk_at "par") => `(tactic| (apply ds_seq; apply ds_par; apply dao; walk_at "de"))
local macro_rules | `(tactic| walk_at "parG") => `(tactic| (apply ds_seq; apply ds_asgG; apply deo; walk_at "de"; walk_at "dg"))
local macro_rules | `(tactic| walk_at "lc") => `(tactic| first | with_reducible exact lookC_hit | with_reducible exact lookC_nil | ((with_reducible refine lookC_miss (by decide +kernel) ?_); walk_at "lc"))
local macro_rules | `(tactic| walk_at "pc") => `(tactic| first | with_reducible exact putC_hit | with_reducible exact putC_nil | ((with_reducible apply putC_miss); (decide +kernel); (walk_at "pc")))
local macro_rules | `(tactic| walk_at "cl") => `(tactic| first | with_reducible exact Tx.c_Band _ | with_reducible exact Tx.i_Band _ | with_reducible exact Tx.n_Band_lows _ | with_reducible exact Tx.n_Band_highs _ | with_reducible exact Tx.c_Barred _ | with_reducible exact Tx.i_Barred _ | with_reducible exact Tx.n_Barred_first _ | with_reducible exact Tx.n_Barred_second _ | with_reducible exact Tx.c_Evened _ | with_reducible exact Tx.i_Evened _ | with_reducible exact Tx.n_Evened_row _ | with_reducible exact Tx.n_Evened_first _ | with_reducible exact Tx.n_Evened_second _ | with_reducible exact Tx.c_Squared _ | with_reducible exact Tx.i_Squared _ | with_reducible exact Tx.n_Squared_row _ | with_reducible exact Tx.c_Summed _ | with_reducible exact Tx.i_Summed _ | with_reducible exact Tx.n_Summed_row _ | with_reducible exact Tx.n_Summed_pulls _ | with_reducible exact Tx.is_Band_Barred _ | with_reducible exact Tx.is_Band_Evened _ | with_reducible exact Tx.is_Band_Squared _ | with_reducible exact Tx.is_Band_Summed _ | with_reducible exact Tx.is_Barred_Band _ | with_reducible exact Tx.is_Barred_Evened _ | with_reducible exact Tx.is_Barred_Squared _ | with_reducible exact Tx.is_Barred_Summed _ | with_reducible exact Tx.is_Evened_Band _ | with_reducible exact Tx.is_Evened_Barred _ | with_reducible exact Tx.is_Evened_Squared _ | with_reducible exact Tx.is_Evened_Summed _ | with_reducible exact Tx.is_Squared_Band _ | with_reducible exact Tx.is_Squared_Barred _ | with_reducible exact Tx.is_Squared_Evened _ | with_reducible exact Tx.is_Squared_Summed _ | with_reducible exact Tx.is_Summed_Band _ | with_reducible exact Tx.is_Summed_Barred _ | with_reducible exact Tx.is_Summed_Evened _ | with_reducible exact Tx.is_Summed_Squared _| with_reducible exact (Tx.i_Band _).me | with_reducible exact (Tx.i_Barred _).me | with_reducible exact (Tx.i_Evened _).me | with_reducible exact (Tx.i_Squared _).me | with_reducible exact (Tx.i_Summed _).me)
local macro_rules | `(tactic| walk_at "d1") => `(tactic| first | exact c_common | with_reducible apply c_is_number)
local macro_rules | `(tactic| walk_at "d1") => `(tactic| with_reducible apply c_lowest)
local macro_rules | `(tactic| walk_at "d1") => `(tactic| with_reducible apply c_are_numbers)
local macro_rules | `(tactic| walk_at "d1") => `(tactic| with_reducible apply c_check_numbers)
local macro_rules | `(tactic| walk_at "d1") => `(tactic| with_reducible apply c_check_row)
local macro_rules | `(tactic| walk_at "d1") => `(tactic| with_reducible apply c_check_weights)
local macro_rules | `(tactic| walk_at "d1") => `(tactic| with_reducible apply c_greatest_of)
local macro_rules | `(tactic| walk_at "d1") => `(tactic| with_reducible apply c_sum_of)
local macro_rules | `(tactic| walk_at "d1") => `(tactic| first | with_reducible apply c_greatest | with_reducible apply c_summed_up | with_reducible exact c_is_fraction)
local macro_rules | `(tactic| walk_at "d1") => `(tactic| first | with_reducible exact c__law_whole2 | with_reducible apply c__law_whole)
local macro_rules | `(tactic| walk_at "d1") => `(tactic| with_reducible first | exact div21 | exact div3 | exact div2 | exact div5 | exact div7 | exact div30 | exact div230 | exact pos21 | exact pos2 | exact pos3 | exact pos5 | exact pos7 | exact pos9 | exact pos12 | exact posE30 | exact posE9 | exact mul2 | exact mul2l | exact mul3l)
local macro_rules | `(tactic| walk_at "d1") => `(tactic| first | with_reducible apply c__law_numbers | with_reducible apply c__law_weights)
local macro_rules | `(tactic| walk_at "d1") => `(tactic| with_reducible apply c_rises)
local macro_rules | `(tactic| walk_at "d1") => `(tactic| with_reducible apply c_highest_so_far)
local macro_rules | `(tactic| walk_at "d1") => `(tactic| with_reducible apply c_worst_places)
/-! ## evened -/
abbrev evF (xs : List D) (x y : D) : List (Str × D) := [("row", .lst xs), ("first", x), ("second", y)]
abbrev evC (xs : List D) (x y : D) : List (Str × Ch) := [("row", .ow xs), ("first", .st x), ("second", .st y)]
def R_Evened___init__ (ds : List D) (fs : List (Str × Ch)) : Prop := ∃ xs x y, ds = [.lst xs, x, y] ∧ fs = evC xs x y
theorem ok_Evened___init__ (T : Tx K mg base) : FnOk P w K mg base CX0 1 T.a_Evened___init__ T.d_Evened___init__ ["self", "row", "first", "second"] (spI K T.C_Evened 3 R_Evened___init__) := by
  refine pure_okI T.F_Evened___init__ sc_Evened___init__ rfl (by decide) (fun cdv A outer s H E hr => ?_)
  have nd := sc_Evened___init__.nd
  have hu := hr.units
  refine ⟨_, (pss_cons (ps_fldK K (pv 0) (pe_callTy (listK K) (by rfl) T.m_list bt_list (pa_cons (pv 1) pa_nil)) rfl)
      (pss_cons (ps_fldK K (pv 0) (pv 2) rfl)
      (pss_one (ps_fldK K (pv 0) (pv 3) rfl)))), fun p ds fs h => ?_⟩
  obtain ⟨xs, x, y, rfl, rfl⟩ := h
  change DS _ _ (B.oo _ _ [] :: [B.im _, B.im _, B.im _]) _
  apply ds_seq
  apply ds_fldI (c := .ow xs) 0
  · rfl
  · exact T.c_Evened
  · exact T.n_Evened_row
  · walk_at "lc"
  · exact Nat.le_of_ble_eq_true rfl
  · walk_at "pc"
  · exact dxo (dx_list (da_cons (de_var rfl) da_nil))
  apply ds_seq
  apply ds_fldI (c := .st x) 0
  · rfl
  · exact T.c_Evened
  · exact T.n_Evened_first
  · walk_at "lc"
  · exact Nat.le_of_ble_eq_true rfl
  · walk_at "pc"
  · exact deo (de_var rfl)
  apply ds_fldI (c := .st y) 0
  · rfl
  · exact T.c_Evened
  · exact T.n_Evened_second
  · walk_at "lc"
  · exact Nat.le_of_ble_eq_true rfl
  · walk_at "pc"
  · exact deo (de_var rfl)
  rfl
theorem c_Evened___init__ {xs : List D} {x y : D} : R_Evened___init__ [.lst xs, x, y] (evC xs x y) := ⟨_, _, _, rfl, rfl⟩
/-- does it show that none costs less -/
def evenOk (os rs : List Int) (a b : Int) : Bool :=
  if rs.length = os.length ∧ up rs = true then
    (if os = [] then decide (a = 0) && decide (b = 0)
    else if 0 ≤ a ∧ a ≤ b ∧ b < os.length then decide (2 * costG os rs - 1 ≤ os.getD a.toNat 0 - os.getD b.toNat 0) else false)
  else false
def R_Evened_shows (C : Addr) (ds : List D) (d : D) : Prop := ∃ (rs os : List Int) (a b : Int), ds = [.ins C (evF (dI rs) (.int a) (.int b)), .lst (dI os)] ∧ rs.length ≤ 1000 ∧ os.length ≤ 1000 ∧ d = .bl (evenOk os rs a b)
theorem ok_Evened_shows (T : Tx K mg base) : FnOk P w K mg base CX0 2 T.a_Evened_shows T.d_Evened_shows ["self", "numbers"] (spR K 2 (R_Evened_shows T.C_Evened)) := by
  refine pure_ok T.F_Evened_shows sc_Evened_shows rfl (fun cdv A outer s H E hr => ?_)
  have nd := sc_Evened_shows.nd
  have hu := hr.units
  refine ⟨_, (pss_cons (ps_if (PW.pt (pw_or (pt_cmpR (neK K hu) (pe_callB (lenK K) (by rfl) T.m_len bt_len (pa_cons (fldK K (pv 0) rfl) pa_nil)) (pe_callB (lenK K) (by rfl) T.m_len bt_len (pa_cons (pv 1) pa_nil)) (nomark _)) (pw_or1 (pt_not (pt_val (pe_call (ok_rises T) (hr.mono (by decide)) (by rfl) T.g_rises T.F_rises.kp T.b_rises .nil pass0 (pa_cons (fldK K (pv 0) rfl) pa_nil))))))) (pss_one (ps_ret pe_bl)) pss_nil)
      (pss_cons (ps_if (pt_cmpR (eqK K hu) (pv 1) (pe_lst pa_nil) (nomark _)) (pss_one (ps_ret (pe_and (pe_cmpR (eqK K hu) (fldK K (pv 0) rfl) pe_int (nomark _)) (pe_one (pe_cmpR (eqK K hu) (fldK K (pv 0) rfl) pe_int (nomark _)))))) pss_nil)
      (pss_cons (ps_if (pt_not (pt_chain3 op_le op_le op_lt pe_int (fldK K (pv 0) rfl) (fldK K (pv 0) rfl) (pe_callB (lenK K) (by rfl) T.m_len bt_len (pa_cons (pv 1) pa_nil)))) (pss_one (ps_ret pe_bl)) pss_nil)
      (pss_one (ps_ret (pe_cmpR op_ge (pe_op op_sub (pe_ix (ixK K) (pv 1) (fldK K (pv 0) rfl) (fun _ _ => rfl)) (pe_ix (ixK K) (pv 1) (fldK K (pv 0) rfl) (fun _ _ => rfl))) (pe_op op_sub (pe_op (mulK K) pe_int (pe_call (ok_greatest_of T) (hr.mono (by decide)) (by rfl) T.g_greatest_of T.F_greatest_of.kp T.b_greatest_of .nil pass0 (pa_cons (pv 1) (pa_cons (fldK K (pv 0) rfl) pa_nil)))) pe_int) (nomark _))))))), fun ds d h => ?_⟩
  obtain ⟨rs, os, a, b, rfl, hr, ho, rfl⟩ := h
  change DS _ _ [B.im _, B.im _] _
  unfold evF evenOk
  apply ds_seq
  apply ds_if
  · apply dto
    walk_at "de"
    · exact hr
  · intro hb
    walk_at "ret"
    · rw [if_neg]
      simp at hb
      rintro ⟨h1, h2⟩
      rcases hb with hb | hb
      · exact hb (by omega)
      · rw [h2] at hb
        cases hb
  · intro hb
    have h12 : rs.length = os.length ∧ up rs = true := by
      simp at hb
      exact ⟨by omega, hb.2⟩
    rw [if_pos h12]
    apply ds_next
    apply ds_seq
    apply ds_if
    · refine dto (dt_test (de_op (de_var rfl) (de_lst da_nil (by decide)) (r2_eqL (b := []))))
    · intro hb
      rw [if_pos (of_decide_eq_true hb)]
      walk_at "ret"
      · rfl
    · intro hb
      rw [if_neg (of_decide_eq_false hb)]
      apply ds_next
      apply ds_seq
      apply ds_if
      · apply dto
        walk_at "de"
      · intro hb
        rw [if_neg]
        · walk_at "ret"
          · rfl
        · simp at hb
          omega
      · intro hb
        have h3 : 0 ≤ a ∧ a ≤ b ∧ b < os.length := by
          simp at hb
          exact hb
        rw [if_pos h3]
        apply ds_next
        walk_at "ret"
        all_goals first | omega | exact mul2l | exact h12.1 | rfl
theorem c_Evened_shows {C : Addr} {rs os : List Int} {a b : Int} (h : rs.length ≤ 1000) (h2 : os.length ≤ 1000) : R_Evened_shows C [.ins C (evF (dI rs) (.int a) (.int b)), .lst (dI os)] (.bl (evenOk os rs a b)) := ⟨_, _, _, _, rfl, h, h2, rfl⟩
local macro_rules | `(tactic| walk_at "d1") => `(tactic| with_reducible apply c_Evened_shows)
def halfOf (ns : List Int) : Int := if ns = [] then 0 else (ns.getD (first ns) 0 - ns.getD (second ns) 0 + 1) / 2
def evRow (ns : List Int) : List Int := (hsf ns).map fun x => x - halfOf ns
def R_evened (C : Addr) (ds : List D) (b : B) : Prop := ∃ ns : List Int, ds = [.lst (dI ns)] ∧ ns.length ≤ 1000 ∧ b = .oo none C (evC (dI (evRow ns)) (.int (first ns)) (.int (second ns)))
theorem fs_lt {ns : List Int} (h : ns ≠ []) : first ns < ns.length ∧ second ns < ns.length := by
  unfold first second
  obtain ⟨n, e⟩ : ∃ n, ns.length = n + 1 := ⟨ns.length - 1, by
    have := List.length_pos_iff.mpr h
    omega⟩
  obtain ⟨_, _, h3, h4, _⟩ := wp_inv ns n
  rw [e]
  omega
theorem ok_evened (T : Tx K mg base) : FnOk P w K mg base CX0 4 T.a_evened T.d_evened ["numbers"] (spO K 1 (R_evened T.C_Evened)) := by
  refine pure_okO T.F_evened sc_evened rfl (fun cdv A outer s H E hr => ?_)
  have nd := sc_evened.nd
  have hu := hr.units
  refine ⟨_, (pss_cons (ps_expr (pe_call (ok_check_numbers T) (hr.mono (by decide)) (by rfl) T.g_check_numbers T.F_check_numbers.kp T.b_check_numbers .nil pass0 (pa_cons (pv 0) pa_nil)))
      (pss_cons (ps_asg (pe_call (ok_worst_places T) (hr.mono (by decide)) (by rfl) T.g_worst_places T.F_worst_places.kp T.b_worst_places .nil pass0 (pa_cons (pv 0) pa_nil)) (pg_tupK (n := 2) K rfl (pgs_cons (pg_name (i := 1) nd rfl (by first | exact Or.inl rfl | exact Or.inr rfl)) (pgs_cons (pg_name (i := 2) nd rfl (by first | exact Or.inl rfl | exact Or.inr rfl)) pgs_nil))))
      (pss_cons (ps_set (i := 3) nd rfl (by first | exact Or.inl rfl | exact Or.inr rfl) pe_int)
      (pss_cons (ps_if (pt_cmpR (neK K hu) (pv 0) (pe_lst pa_nil) (nomark _)) (pss_one (ps_set (i := 3) nd rfl (by first | exact Or.inl rfl | exact Or.inr rfl) (pe_op op_fdivW (pe_op (addK K) (pe_op op_sub (pe_ix (ixK K) (pv 0) (pv 1) (fun _ _ => rfl)) (pe_ix (ixK K) (pv 0) (pv 2) (fun _ _ => rfl))) pe_int) pe_int))) pss_nil)
      (pss_one (ps_ret (pe_make T.k_Evened (ok_Evened___init__ T) (hr.mono (by decide)) (by rfl) T.g_Evened T.b_Evened___init__ .nil pass0 (pa_cons (pe_lc (own := [("number", 4)]) (g := (gName 4)) (tt := tYes) rfl nd (pi_listK K (pe_call (ok_highest_so_far T) (hr.mono (by decide)) (by rfl) T.g_highest_so_far T.F_highest_so_far.kp T.b_highest_so_far .nil pass0 (pa_cons (pv 0) pa_nil))) (blkOk_by (own := [("number", 4)]) (N := N_evened) (sc := defScope s_evened) (by decide +kernel)) (fun _ _ _ _ _ => (pg_name (i := 4) nd rfl (by first | exact Or.inl rfl | exact Or.inr rfl))) (fun _ _ _ _ _ => pts_nil) (fun _ _ _ _ _ => (pe_op op_sub (pv 4) (pv 3)))) (pa_cons (pv 1) (pa_cons (pv 2) pa_nil)))))))))), fun ds d h => ?_⟩
  obtain ⟨ns, rfl, hl, rfl⟩ := h
  change DS _ _ [B.im _, B.no, B.no, B.no, B.no] _
  walk_at "drop"
  · exact hl
  apply ds_seq
  apply ds_asgG
  · apply deo
    walk_at "de"
    exact hl
  · walk_at "dg"
  walk_at "asg"
  refine ds_cut [.im (.lst (dI ns)), .im (.int (first ns)), .im (.int (second ns)), .im (.int (halfOf ns)), .no] ?_ ?_
  · apply ds_if
    · refine dto (dt_test (de_op (de_var rfl) (de_lst da_nil (by decide)) (r2_neL (b := []))))
    · intro hb
      have hne : ns ≠ [] := by
        simp at hb
        exact hb
      obtain ⟨h1, h2⟩ := fs_lt hne
      apply ds_asg (d := .int (halfOf ns))
      · apply deo
        refine' de_is _ _
        rotate_left
        · walk_at "de"
          all_goals first | exact h1 | exact h2 | exact div2 | exact pos2
        · unfold halfOf
          rw [if_neg hne]
      · rfl
    · intro hb
      have hne : ns = [] := by
        simp at hb
        exact hb
      apply ds_next
      unfold halfOf
      rw [if_pos hne]
      rfl
  · refine ds_retX (dxo (dx_make (da_cons ?_ (da_cons (de_var rfl) (da_cons (de_var rfl) da_nil))) c_Evened___init__ rfl)) rfl
    unfold evRow
    apply de_lcI (fun x => x - halfOf ns) (di_list (de_callO (da_cons (de_var rfl) da_nil) (c_highest_so_far hl) rfl rfl)) (by rw [hsf_len]; omega)
    intro x hx
    refine ⟨_, dg_name _ (by decide), ?_⟩
    walk_at "de"
theorem c_evened {C : Addr} {ns : List Int} (h : ns.length ≤ 1000) : R_evened C [.lst (dI ns)] (.oo none C (evC (dI (evRow ns)) (.int (first ns)) (.int (second ns)))) := ⟨_, rfl, h, rfl⟩
end
end U

namespace U
open PySem PySem.Spec PyProof.Rows L2 DL
section
variable {P : Program} {w : World} {K : PySem.W.Frag} {mg : Str → Option Value} {base : Heap}
local macro_rules | `(tactic| walk_at "lk") => `(tactic| first | with_reducible exact look_hit | ((with_reducible refine look_miss (by decide +kernel) ?_); walk_at "lk") | with_reducible exact look_nil)
local macro_rules | `(tactic| walk_at "fz") => `(tactic| simp only [fz, fzB, chF, Ch.d, List.map, List.set])
local macro_rules | `(tactic| walk_at "ob") => `(tactic| first
  | ((with_reducible show look _ _ = _); walk_at "lk")
  | with_reducible apply de_callO | ((with_reducible show B.d _ = _); rfl) | ((with_reducible apply de_either1); (with_reducible apply de_meth); exact de_var rfl) | ((with_reducible apply de_either2); (with_reducible apply de_meth); exact de_var rfl)
  | with_reducible exact de_cls | with_reducible apply de_fld | with_reducible apply rc_isC | with_reducible apply de_meth
  | walk_at "cl")
local macro_rules | `(tactic| walk_at "r2") => `(tactic| (fail_if_success (with_reducible show R2D _ _ D.non _ _)); (fail_if_success (with_reducible show R2D _ _ _ D.non _)); first
  | exact r2_add | exact r2_sub | exact r2_lt | exact r2_le | exact r2_gt | exact r2_ge
  | with_reducible exact r2_p30 | with_reducible exact r2_p9
  | with_reducible apply r2_mod | with_reducible apply r2_fdiv | with_reducible apply r2_mul | with_reducible apply r2_pow | with_reducible apply r2_cat | with_reducible apply r2_rep1
  | exact r2_ixT rfl | exact r2_ixL rfl | with_reducible apply r2_ixN | with_reducible apply r2_ixI
  | exact r2_eqI | exact r2_neI | exact r2_eqB | exact r2_neB | exact r2_eqL | exact r2_neL | exact r2_isB | exact r2_notB)
local macro_rules | `(tactic| walk_at "rc") => `(tactic| (fail_if_success (with_reducible show RCD _ _ [D.non] _)); (fail_if_success (with_reducible show RCD _ _ [D.non, _] _)); (fail_if_success (with_reducible show RCD _ _ [_, D.non] _)); first
  | with_reducible exact rc_srt
  | exact rc_abs | exact rc_max2 | exact rc_min2 | exact rc_sum | exact rc_all | exact rc_any | exact rc_lenL | exact rc_lenT | exact rc_listL | exact rc_listT
  | with_reducible apply rc_int | with_reducible apply rc_bool | with_reducible apply rc_list | with_reducible apply rc_tuple)
local macro_rules | `(tactic| walk_at "d1") => `(tactic| first
  | with_reducible exact de_int | with_reducible exact de_bl | with_reducible exact de_non | exact de_var rfl
  | with_reducible exact da_nil | with_reducible apply da_cons
  | with_reducible apply de_op | with_reducible apply de_un | with_reducible apply de_cb | with_reducible apply de_call
  | with_reducible apply de_tup | with_reducible apply de_lst
  | with_reducible apply de_andV | with_reducible apply de_orV | with_reducible apply de_notV | ((with_reducible show _ = true → _); intro _) | ((with_reducible show _ = false → _); intro _)
  | with_reducible apply dt_and | with_reducible apply dt_or | with_reducible apply dt_not | with_reducible apply dt_test | with_reducible apply dt_B
  | with_reducible apply de_slice | with_reducible exact do_none | with_reducible apply do_some | with_reducible apply de_rev
  | with_reducible apply de_maxD | with_reducible apply de_chain3 | with_reducible apply de_chain
  | walk_at "r2" | walk_at "rc" | walk_at "ob"
  | ((with_reducible show R1D _ _ (D.int _) _); exact r1_neg)
  | with_reducible exact de_ty
  | with_reducible exact ne_int | with_reducible exact ne_lst | with_reducible exact ne_tup | with_reducible exact ne_bl
  | ((with_reducible show List.length _ = _); rfl) | ((with_reducible show List.length _ + 1 = _); rfl)
  | (with_reducible show List.length _ ≤ 1000); exact Nat.le_of_ble_eq_true rfl)
local macro_rules | `(tactic| walk_at "dg") => `(tactic| repeat' (first | exact dg_name _ trivial | exact dg_name _ (by decide) | with_reducible exact dg_nil | with_reducible apply dg_cons | with_reducible apply dg_tup | ((with_reducible show List.length _ = _); rfl)))
local macro_rules | `(tactic| walk_at "de") => `(tactic| repeat' walk_at "d1")
local macro_rules | `(tactic| walk_at "ret") => `(tactic| (apply ds_ret; apply deo; walk_at "de"))
local macro_rules | `(tactic| walk_at "asg") => `(tactic| (apply ds_seq; apply ds_asg; apply deo; walk_at "de"))
local macro_rules | `(tactic| walk_at "drop") => `(tactic| (apply ds_seq; apply ds_drop; apply deo; walk_at "de"))
local macro_rules | `(tactic| walk_at "par") => `(tactic| (apply ds_seq; apply ds_par; apply dao; walk_at "de"))
local macro_rules | `(tactic| walk_at "parG") => `(tactic| (apply ds_seq; apply ds_asgG; apply deo; walk_at "de"; walk_at "dg"))
local macro_rules | `(tactic| walk_at "lc") => `(tactic| first | with_reducible exact lookC_hit | with_reducible exact lookC_nil | ((with_reducible refine lookC_miss (by decide +kernel) ?_); walk_at "lc"))
local macro_rules | `(tactic| walk_at "pc") => `(tactic| first | with_reducible exact putC_hit | with_reducible exact putC_nil | ((with_reducible apply putC_miss); (decide +kernel); (walk_at "pc")))
local macro_rules | `(tactic| walk_at "cl") => `(tactic| first | with_reducible exact Tx.c_Band _ | with_reducible exact Tx.i_Band _ | with_reducible exact Tx.n_Band_lows _ | with_reducible exact Tx.n_Band_highs _ | with_reducible exact Tx.c_Barred _ | with_reducible exact Tx.i_Barred _ | with_reducible exact Tx.n_Barred_first _ | with_reducible exact Tx.n_Barred_second _ | with_reducible exact Tx.c_Evened _ | with_reducible exact Tx.i_Evened _ | with_reducible exact Tx.n_Evened_row _ | with_reducible exact Tx.n_Evened_first _ | with_reducible exact Tx.n_Evened_second _ | with_reducible exact Tx.c_Squared _ | with_reducible exact Tx.i_Squared _ | with_reducible exact Tx.n_Squared_row _ | with_reducible exact Tx.c_Summed _ | with_reducible exact Tx.i_Summed _ | with_reducible exact Tx.n_Summed_row _ | with_reducible exact Tx.n_Summed_pulls _ | with_reducible exact Tx.is_Band_Barred _ | with_reducible exact Tx.is_Band_Evened _ | with_reducible exact Tx.is_Band_Squared _ | with_reducible exact Tx.is_Band_Summed _ | with_reducible exact Tx.is_Barred_Band _ | with_reducible exact Tx.is_Barred_Evened _ | with_reducible exact Tx.is_Barred_Squared _ | with_reducible exact Tx.is_Barred_Summed _ | with_reducible exact Tx.is_Evened_Band _ | with_reducible exact Tx.is_Evened_Barred _ | with_reducible exact Tx.is_Evened_Squared _ | with_reducible exact Tx.is_Evened_Summed _ | with_reducible exact Tx.is_Squared_Band _ | with_reducible exact Tx.is_Squared_Barred _ | with_reducible exact Tx.is_Squared_Evened _ | with_reducible exact Tx.is_Squared_Summed _ | with_reducible exact Tx.is_Summed_Band _ | with_reducible exact Tx.is_Summed_Barred _ | with_reducible exact Tx.is_Summed_Evened _ | with_reducible exact Tx.is_Summed_Squared _| with_reducible exact (Tx.i_Band _).me | with_reducible exact (Tx.i_Barred _).me | with_reducible exact (Tx.i_Evened _).me | with_reducible exact (Tx.i_Squared _).me | with_reducible exact (Tx.i_Summed _).me)
local macro_rules | `(tactic| walk_at "d1") => `(tactic| first | exact c_common | with_reducible apply c_is_number)
local macro_rules | `(tactic| walk_at "d1") => `(tactic| with_reducible apply c_lowest)
local macro_rules | `(tactic| walk_at "d1") => `(tactic| with_reducible apply c_are_numbers)
local macro_rules | `(tactic| walk_at "d1") => `(tactic| with_reducible apply c_check_numbers)
local macro_rules | `(tactic| walk_at "d1") => `(tactic| with_reducible apply c_check_row)
local macro_rules | `(tactic| walk_at "d1") => `(tactic| with_reducible apply c_check_weights)
local macro_rules | `(tactic| walk_at "d1") => `(tactic| with_reducible apply c_greatest_of)
local macro_rules | `(tactic| walk_at "d1") => `(tactic| with_reducible apply c_sum_of)
local macro_rules | `(tactic| walk_at "d1") => `(tactic| first | with_reducible apply c_greatest | with_reducible apply c_summed_up | with_reducible exact c_is_fraction)
local macro_rules | `(tactic| walk_at "d1") => `(tactic| first | with_reducible exact c__law_whole2 | with_reducible apply c__law_whole)
local macro_rules | `(tactic| walk_at "d1") => `(tactic| with_reducible first | exact div21 | exact div3 | exact div2 | exact div5 | exact div7 | exact div30 | exact div230 | exact pos21 | exact pos2 | exact pos3 | exact pos5 | exact pos7 | exact pos9 | exact pos12 | exact posE30 | exact posE9 | exact mul2 | exact mul2l | exact mul3l)
local macro_rules | `(tactic| walk_at "d1") => `(tactic| first | with_reducible apply c__law_numbers | with_reducible apply c__law_weights)
local macro_rules | `(tactic| walk_at "d1") => `(tactic| with_reducible apply c_rises)
local macro_rules | `(tactic| walk_at "d1") => `(tactic| with_reducible apply c_highest_so_far)
local macro_rules | `(tactic| walk_at "d1") => `(tactic| with_reducible apply c_worst_places)
local macro_rules | `(tactic| walk_at "d1") => `(tactic| with_reducible apply c_Evened_shows)
/-! ## the law's own reckoning -/
def R__law_rises (ds : List D) (d : D) : Prop := ∃ rs : List Int, ds = [.lst (dI rs)] ∧ rs.length ≤ 1000 ∧ d = .bl (up rs)
theorem ok__law_rises (T : Tx K mg base) : FnOk P w K mg base CX0 1 T.a__law_rises T.d__law_rises ["_law_row"] (spR K 1 R__law_rises) := by
  refine pure_ok T.F__law_rises sc__law_rises rfl (fun cdv A outer s H E hr => ?_)
  have nd := sc__law_rises.nd
  have hu := hr.units
  refine ⟨_, (pss_one (ps_ret (pe_callB (allK K rfl) (by rfl) T.m_all bt_all (pa_cons (pe_lc (own := [("_law_at", 1)]) (g := (gName 1)) (tt := tYes) rfl nd (pi_range1 (by rfl) T.m_range (pa_cons (pe_op op_sub (pe_callB (lenK K) (by rfl) T.m_len bt_len (pa_cons (pv 0) pa_nil)) pe_int) pa_nil)) (blkOk_by (own := [("_law_at", 1)]) (N := N__law_rises) (sc := defScope s__law_rises) (by decide +kernel)) (fun _ _ _ _ _ => (pg_name (i := 1) nd rfl (by first | exact Or.inl rfl | exact Or.inr rfl))) (fun _ _ _ _ _ => pts_nil) (fun _ _ _ _ _ => (pe_cmpR op_le (pe_ix (ixK K) (pv 0) (pv 1) (fun _ _ => rfl)) (pe_ix (ixK K) (pv 0) (pe_op (addK K) (pv 1) pe_int) (fun _ _ => rfl)) (nomark _)))) pa_nil)))), fun ds d h => ?_⟩
  obtain ⟨rs, rfl, hl, rfl⟩ := h
  change DS _ _ [B.im _, B.no] _
  walk_at "ret"
  · apply de_lcB (fun i : Nat => decide (rs.getD i 0 ≤ rs.getD (i + 1) 0)) (di_rngI (da_cons (de_op (de_cb (da_cons (de_var rfl) da_nil) rc_lenL) de_int r2_sub) da_nil) (by rw [List.length_map]; omega) (by rw [List.length_map]; omega)) (by rw [List.length_range, List.length_map]; omega)
    intro x hx
    have hx' : x + 1 < rs.length := by
      rw [List.length_map] at hx
      have := List.mem_range.mp hx
      omega
    refine ⟨_, dg_name _ (by decide), ?_⟩
    exact de_op (de_op (de_var rfl) (de_var rfl) (r2_ixL (at_I rfl (by omega)))) (de_op (de_var rfl) (de_op (de_var rfl) de_int r2_add) (r2_ixL (at_I (by omega) hx'))) r2_le
  walk_at "de"
  · show D.bl _ = D.bl (up rs)
    unfold up
    rw [List.length_map, show ((rs.length : Int) - 1).toNat = rs.length - 1 by omega]
theorem c__law_rises {rs : List Int} (h : rs.length ≤ 1000) : R__law_rises [.lst (dI rs)] (.bl (up rs)) := ⟨_, rfl, h, rfl⟩
local macro_rules | `(tactic| walk_at "d1") => `(tactic| with_reducible apply c__law_rises)
theorem even_in {f c : Int} : (inI f [2 * c, 2 * c - 1] || decide (2 * c < f)) = decide (2 * c - 1 ≤ f) := by
  unfold inI
  simp only [List.any_cons, List.any_nil, Bool.or_false]
  rw [Bool.eq_iff_iff]
  simp only [Bool.or_eq_true, beq_iff_eq, decide_eq_true_eq]
  omega
theorem cost_ne {os rs : List Int} (h : os ≠ []) : ((List.range os.length).map fun i => absI (os.getD i 0 - rs.getD i 0)) ≠ [] := fun e => by
  have := congrArg List.length e
  rw [List.length_map, List.length_range] at this
  exact h (List.length_eq_zero_iff.mp this)
def R__law_even (ds : List D) (d : D) : Prop := ∃ (os rs : List Int) (a b : Int), ds = [.lst (dI os), .lst (dI rs), .int a, .int b] ∧ rs.length ≤ 1000 ∧ os.length ≤ 1000 ∧ d = .bl (evenOk os rs a b)
theorem ok__law_even (T : Tx K mg base) : FnOk P w K mg base CX0 2 T.a__law_even T.d__law_even ["_law_numbers_here", "_law_row", "_law_first", "_law_second"] (spR K 4 R__law_even) := by
  refine pure_ok T.F__law_even sc__law_even rfl (fun cdv A outer s H E hr => ?_)
  have nd := sc__law_even.nd
  have hu := hr.units
  refine ⟨_, (pss_cons (ps_if (PW.pt (pw_or (pt_cmpR (neK K hu) (pe_callB (lenK K) (by rfl) T.m_len bt_len (pa_cons (pv 1) pa_nil)) (pe_callB (lenK K) (by rfl) T.m_len bt_len (pa_cons (pv 0) pa_nil)) (nomark _)) (pw_or1 (pt_not (pt_val (pe_call (ok__law_rises T) (hr.mono (by decide)) (by rfl) T.g__law_rises T.F__law_rises.kp T.b__law_rises .nil pass0 (pa_cons (pv 1) pa_nil))))))) (pss_one (ps_ret pe_bl)) pss_nil)
      (pss_cons (ps_if (pt_cmpR (eqK K hu) (pv 0) (pe_lst pa_nil) (nomark _)) (pss_one (ps_ret (pe_and (pe_cmpR (eqK K hu) (pv 2) pe_int (nomark _)) (pe_one (pe_cmpR (eqK K hu) (pv 3) pe_int (nomark _)))))) pss_nil)
      (pss_cons (ps_if (pt_not (pt_chain3 op_le op_le op_lt pe_int (pv 2) (pv 3) (pe_callB (lenK K) (by rfl) T.m_len bt_len (pa_cons (pv 0) pa_nil)))) (pss_one (ps_ret pe_bl)) pss_nil)
      (pss_cons (ps_set (i := 4) nd rfl (by first | exact Or.inl rfl | exact Or.inr rfl) (pe_callB (maxK K rfl) (by rfl) T.m_max bt_max (pa_cons (pe_lc (own := [("_law_number", 5), ("_law_one", 6)]) (g := (gTup K 2 (gCons (gName 5) (gCons (gName 6) gNil)))) (tt := tYes) rfl nd (pi_zipK K (by rfl) T.m_zip (pa_cons (pv 0) (pa_cons (pv 1) pa_nil))) (blkOk_by (own := [("_law_number", 5), ("_law_one", 6)]) (N := N__law_even) (sc := defScope s__law_even) (by decide +kernel)) (fun _ _ _ _ _ => (pg_tupK (n := 2) K rfl (pgs_cons (pg_name (i := 5) nd rfl (by first | exact Or.inl rfl | exact Or.inr rfl)) (pgs_cons (pg_name (i := 6) nd rfl (by first | exact Or.inl rfl | exact Or.inr rfl)) pgs_nil)))) (fun _ _ _ _ _ => pts_nil) (fun _ _ _ _ _ => (pe_callB call_abs (by rfl) T.m_abs bt_abs (pa_cons (pe_op op_sub (pv 5) (pv 6)) pa_nil)))) pa_nil)))
      (pss_one (ps_ret (pe_or (pe_cmpR (inK K) (pe_op op_sub (pe_ix (ixK K) (pv 0) (pv 2) (fun _ _ => rfl)) (pe_ix (ixK K) (pv 0) (pv 3) (fun _ _ => rfl))) (pe_lst (pa_cons (pe_op (mulK K) pe_int (pv 4)) (pa_cons (pe_op op_sub (pe_op (mulK K) pe_int (pv 4)) pe_int) pa_nil))) rfl) (pe_one (pe_cmpR op_gt (pe_op op_sub (pe_ix (ixK K) (pv 0) (pv 2) (fun _ _ => rfl)) (pe_ix (ixK K) (pv 0) (pv 3) (fun _ _ => rfl))) (pe_op (mulK K) pe_int (pv 4)) (nomark _)))))))))), fun ds d h => ?_⟩
  obtain ⟨os, rs, a, b, rfl, hr, ho, rfl⟩ := h
  change DS _ _ [B.im _, B.im _, B.im _, B.im _, B.no, B.no, B.no] _
  unfold evenOk
  apply ds_seq
  apply ds_if
  · apply dto
    walk_at "de"
    · exact hr
  · intro hb
    walk_at "ret"
    · rw [if_neg]
      simp at hb
      rintro ⟨h1, h2⟩
      rcases hb with hb | hb
      · exact hb (by omega)
      · rw [h2] at hb
        cases hb
  · intro hb
    have h12 : rs.length = os.length ∧ up rs = true := by
      simp at hb
      exact ⟨by omega, hb.2⟩
    rw [if_pos h12]
    apply ds_next
    apply ds_seq
    apply ds_if
    · refine dto (dt_test (de_op (de_var rfl) (de_lst da_nil (by decide)) (r2_eqL (b := []))))
    · intro hb
      rw [if_pos (of_decide_eq_true hb)]
      walk_at "ret"
      · rfl
    · intro hb
      have hne : os ≠ [] := of_decide_eq_false hb
      rw [if_neg hne]
      apply ds_next
      apply ds_seq
      apply ds_if
      · apply dto
        walk_at "de"
      · intro hb
        rw [if_neg]
        · walk_at "ret"
          · rfl
        · simp at hb
          omega
      · intro hb
        have h3 : 0 ≤ a ∧ a ≤ b ∧ b < os.length := by
          simp at hb
          exact hb
        rw [if_pos h3]
        apply ds_next
        have mm := maxOr_mem (d := 0) (cost_ne (rs := rs) hne)
        apply ds_seq
        apply ds_asg (d := .int (costG os rs))
        · refine deo (de_cb (da_cons ?_ da_nil) (rc_max mm.1 mm.2))
          apply de_lcI (fun i : Nat => absI (os.getD i 0 - rs.getD i 0)) (xs := List.range os.length) (enc := fun i => D.tup [.int (os.getD i 0), .int (rs.getD i 0)])
          · rw [← zip_range h12.1]
            exact di_zip (da_cons (de_var rfl) (da_cons (de_var rfl) da_nil))
          · rw [List.length_range]
            omega
          · intro x hx
            refine ⟨_, dg_tup (dg_cons (dg_name _ (by decide)) (dg_cons (dg_name _ (by decide)) dg_nil)) rfl, ?_⟩
            walk_at "de"
        apply ds_ret (d := .bl (decide (2 * costG os rs - 1 ≤ os.getD a.toNat 0 - os.getD b.toNat 0)))
        · apply deo
          rw [← even_in]
          have hF : ∀ {Γ : List B}, Γ[0]? = some (.im (.lst (dI os))) → Γ[2]? = some (.im (.int a)) → Γ[3]? = some (.im (.int b)) → DE K (tOp (rI0 fun i j => V.int (i - j)) (tOp (rIx K) (tVar 0) (tVar 2)) (tOp (rIx K) (tVar 0) (tVar 3))) Γ (.int (os.getD a.toNat 0 - os.getD b.toNat 0)) :=
            fun e0 e2 e3 => de_op (de_op (de_var e0) (de_var e2) (r2_ixI (by omega) (by omega))) (de_op (de_var e0) (de_var e3) (r2_ixI (by omega) (by omega))) r2_sub
          refine de_orV (de_op (hF rfl rfl rfl) (de_lst (da_cons ?_ (da_cons ?_ da_nil)) (Nat.le_of_ble_eq_true rfl)) (r2_in (ns := [2 * costG os rs, 2 * costG os rs - 1]))) (fun _ => de_op (hF rfl rfl rfl) ?_ r2_gt)
          · exact de_op de_int (de_var rfl) (r2_mul mul2l)
          · exact de_op (de_op de_int (de_var rfl) (r2_mul mul2l)) de_int r2_sub
          · exact de_op de_int (de_var rfl) (r2_mul mul2l)
        · rfl
theorem c__law_even {rs os : List Int} {a b : Int} (h : rs.length ≤ 1000) (h2 : os.length ≤ 1000) : R__law_even [.lst (dI os), .lst (dI rs), .int a, .int b] (.bl (evenOk os rs a b)) := ⟨_, _, _, _, rfl, h, h2, rfl⟩
local macro_rules | `(tactic| walk_at "d1") => `(tactic| first | with_reducible apply c__law_even | with_reducible apply c__law_whole | with_reducible exact c__law_whole2)
end
end U

namespace U
open PySem PySem.Spec PyProof.Rows L2 DL
section
variable {P : Program} {w : World} {K : PySem.W.Frag} {mg : Str → Option Value} {base : Heap}
local macro_rules | `(tactic| walk_at "lk") => `(tactic| first | with_reducible exact look_hit | ((with_reducible refine look_miss (by decide +kernel) ?_); walk_at "lk") | with_reducible exact look_nil)
local macro_rules | `(tactic| walk_at "fz") => `(tactic| simp only [fz, fzB, chF, Ch.d, List.map, List.set])
local macro_rules | `(tactic| walk_at "ob") => `(tactic| first
  | ((with_reducible show look _ _ = _); walk_at "lk")
  | with_reducible apply de_callO | ((with_reducible show B.d _ = _); rfl) | ((with_reducible apply de_either1); (with_reducible apply de_meth); exact de_var rfl) | ((with_reducible apply de_either2); (with_reducible apply de_meth); exact de_var rfl)
  | with_reducible exact de_cls | with_reducible apply de_fld | with_reducible apply rc_isC | with_reducible apply de_meth
  | walk_at "cl")
local macro_rules | `(tactic| walk_at "r2") => `(tactic| (fail_if_success (with_reducible show R2D _ _ D.non _ _)); (fail_if_success (with_reducible show R2D _ _ _ D.non _)); first
  | exact r2_add | exact r2_sub | exact r2_lt | exact r2_le | exact r2_gt | exact r2_ge
  | with_reducible exact r2_p30 | with_reducible exact r2_p9
  | with_reducible apply r2_mod | with_reducible apply r2_fdiv | with_reducible apply r2_mul | with_reducible apply r2_pow | with_reducible apply r2_cat | with_reducible apply r2_rep1
  | exact r2_ixT rfl | exact r2_ixL rfl | with_reducible apply r2_ixN | with_reducible apply r2_ixI
  | exact r2_eqI | exact r2_neI | exact r2_eqB | exact r2_neB | exact r2_eqL | exact r2_neL | exact r2_isB | exact r2_notB)
local macro_rules | `(tactic| walk_at "rc") => `(tactic| (fail_if_success (with_reducible show RCD _ _ [D.non] _)); (fail_if_success (with_reducible show RCD _ _ [D.non, _] _)); (fail_if_success (with_reducible show RCD _ _ [_, D.non] _)); first
  | with_reducible exact rc_srt
  | exact rc_abs | exact rc_max2 | exact rc_min2 | exact rc_sum | exact rc_all | exact rc_any | exact rc_lenL | exact rc_lenT | exact rc_listL | exact rc_listT
  | with_reducible apply rc_int | with_reducible apply rc_bool | with_reducible apply rc_list | with_reducible apply rc_tuple)
local macro_rules | `(tactic| walk_at "d1") => `(tactic| first
  | with_reducible exact de_int | with_reducible exact de_bl | with_reducible exact de_non | exact de_var rfl
  | with_reducible exact da_nil | with_reducible apply da_cons
  | with_reducible apply de_op | with_reducible apply de_un | with_reducible apply de_cb | with_reducible apply de_call
  | with_reducible apply de_tup | with_reducible apply de_lst
  | with_reducible apply de_andV | with_reducible apply de_orV | with_reducible apply de_notV | ((with_reducible show _ = true → _); intro _) | ((with_reducible show _ = false → _); intro _)
  | with_reducible apply dt_and | with_reducible apply dt_or | with_reducible apply dt_not | with_reducible apply dt_test | with_reducible apply dt_B
  | with_reducible apply de_slice | with_reducible exact do_none | with_reducible apply do_some | with_reducible apply de_rev
  | with_reducible apply de_maxD | with_reducible apply de_chain3 | with_reducible apply de_chain
  | walk_at "r2" | walk_at "rc" | walk_at "ob"
  | ((with_reducible show R1D _ _ (D.int _) _); exact r1_neg)
  | with_reducible exact de_ty
  | with_reducible exact ne_int | with_reducible exact ne_lst | with_reducible exact ne_tup | with_reducible exact ne_bl
  | ((with_reducible show List.length _ = _); rfl) | ((with_reducible show List.length _ + 1 = _); rfl)
  | (with_reducible show List.length _ ≤ 1000); exact Nat.le_of_ble_eq_true rfl)
local macro_rules | `(tactic| walk_at "dg") => `(tactic| repeat' (first | exact dg_name _ trivial | exact dg_name _ (by decide) | with_reducible exact dg_nil | with_reducible apply dg_cons | with_reducible apply dg_tup | ((with_reducible show List.length _ = _); rfl)))
local macro_rules | `(tactic| walk_at "de") => `(tactic| repeat' walk_at "d1")
local macro_rules | `(tactic| walk_at "ret") => `(tactic| (apply ds_ret; apply deo; walk_at "de"))
local macro_rules | `(tactic| walk_at "asg") => `(tactic| (apply ds_seq; apply ds_asg; apply deo; walk_at "de"))
local macro_rules | `(tactic| walk_at "drop") => `(tactic| (apply ds_seq; apply ds_drop; apply deo; walk_at "de"))
local macro_rules | `(tactic| walk_at "par") => `(tactic| (apply ds_seq; apply ds_par; apply dao; walk_at "de"))
local macro_rules | `(tactic| walk_at "parG") => `(tactic| (apply ds_seq; apply ds_asgG; apply deo; walk_at "de"; walk_at "dg"))
local macro_rules | `(tactic| walk_at "lc") => `(tactic| first | with_reducible exact lookC_hit | with_reducible exact lookC_nil | ((with_reducible refine lookC_miss (by decide +kernel) ?_); walk_at "lc"))
local macro_rules | `(tactic| walk_at "pc") => `(tactic| first | with_reducible exact putC_hit | with_reducible exact putC_nil | ((with_reducible apply putC_miss); (decide +kernel); (walk_at "pc")))
local macro_rules | `(tactic| walk_at "cl") => `(tactic| first | with_reducible exact Tx.c_Band _ | with_reducible exact Tx.i_Band _ | with_reducible exact Tx.n_Band_lows _ | with_reducible exact Tx.n_Band_highs _ | with_reducible exact Tx.c_Barred _ | with_reducible exact Tx.i_Barred _ | with_reducible exact Tx.n_Barred_first _ | with_reducible exact Tx.n_Barred_second _ | with_reducible exact Tx.c_Evened _ | with_reducible exact Tx.i_Evened _ | with_reducible exact Tx.n_Evened_row _ | with_reducible exact Tx.n_Evened_first _ | with_reducible exact Tx.n_Evened_second _ | with_reducible exact Tx.c_Squared _ | with_reducible exact Tx.i_Squared _ | with_reducible exact Tx.n_Squared_row _ | with_reducible exact Tx.c_Summed _ | with_reducible exact Tx.i_Summed _ | with_reducible exact Tx.n_Summed_row _ | with_reducible exact Tx.n_Summed_pulls _ | with_reducible exact Tx.is_Band_Barred _ | with_reducible exact Tx.is_Band_Evened _ | with_reducible exact Tx.is_Band_Squared _ | with_reducible exact Tx.is_Band_Summed _ | with_reducible exact Tx.is_Barred_Band _ | with_reducible exact Tx.is_Barred_Evened _ | with_reducible exact Tx.is_Barred_Squared _ | with_reducible exact Tx.is_Barred_Summed _ | with_reducible exact Tx.is_Evened_Band _ | with_reducible exact Tx.is_Evened_Barred _ | with_reducible exact Tx.is_Evened_Squared _ | with_reducible exact Tx.is_Evened_Summed _ | with_reducible exact Tx.is_Squared_Band _ | with_reducible exact Tx.is_Squared_Barred _ | with_reducible exact Tx.is_Squared_Evened _ | with_reducible exact Tx.is_Squared_Summed _ | with_reducible exact Tx.is_Summed_Band _ | with_reducible exact Tx.is_Summed_Barred _ | with_reducible exact Tx.is_Summed_Evened _ | with_reducible exact Tx.is_Summed_Squared _| with_reducible exact (Tx.i_Band _).me | with_reducible exact (Tx.i_Barred _).me | with_reducible exact (Tx.i_Evened _).me | with_reducible exact (Tx.i_Squared _).me | with_reducible exact (Tx.i_Summed _).me)
local macro_rules | `(tactic| walk_at "d1") => `(tactic| first | exact c_common | with_reducible apply c_is_number)
local macro_rules | `(tactic| walk_at "d1") => `(tactic| with_reducible apply c_lowest)
local macro_rules | `(tactic| walk_at "d1") => `(tactic| with_reducible apply c_are_numbers)
local macro_rules | `(tactic| walk_at "d1") => `(tactic| with_reducible apply c_check_numbers)
local macro_rules | `(tactic| walk_at "d1") => `(tactic| with_reducible apply c_check_row)
local macro_rules | `(tactic| walk_at "d1") => `(tactic| with_reducible apply c_check_weights)
local macro_rules | `(tactic| walk_at "d1") => `(tactic| with_reducible apply c_greatest_of)
local macro_rules | `(tactic| walk_at "d1") => `(tactic| with_reducible apply c_sum_of)
local macro_rules | `(tactic| walk_at "d1") => `(tactic| first | with_reducible apply c_greatest | with_reducible apply c_summed_up | with_reducible exact c_is_fraction)
local macro_rules | `(tactic| walk_at "d1") => `(tactic| first | with_reducible exact c__law_whole2 | with_reducible apply c__law_whole)
local macro_rules | `(tactic| walk_at "d1") => `(tactic| with_reducible first | exact div21 | exact div3 | exact div2 | exact div5 | exact div7 | exact div30 | exact div230 | exact pos21 | exact pos2 | exact pos3 | exact pos5 | exact pos7 | exact pos9 | exact pos12 | exact posE30 | exact posE9 | exact mul2 | exact mul2l | exact mul3l)
local macro_rules | `(tactic| walk_at "d1") => `(tactic| first | with_reducible apply c__law_numbers | with_reducible apply c__law_weights)
local macro_rules | `(tactic| walk_at "d1") => `(tactic| with_reducible apply c_rises)
local macro_rules | `(tactic| walk_at "d1") => `(tactic| with_reducible apply c_highest_so_far)
local macro_rules | `(tactic| walk_at "d1") => `(tactic| with_reducible apply c_worst_places)
local macro_rules | `(tactic| walk_at "d1") => `(tactic| with_reducible apply c_Evened_shows)
local macro_rules | `(tactic| walk_at "d1") => `(tactic| with_reducible apply c__law_rises)
local macro_rules | `(tactic| walk_at "d1") => `(tactic| first | with_reducible apply c__law_even | with_reducible apply c__law_whole | with_reducible exact c__law_whole2)
/-! ## the lowest from here on -/
def negs (ns : List Int) : List Int := ns.map fun x => -x
def lof (ns : List Int) : List Int := (negs (hsf (negs ns.reverse))).reverse
def R_lowest_from (ds : List D) (d : B) : Prop := ∃ ns : List Int, ds = [.lst (dI ns)] ∧ ns.length ≤ 1000 ∧ d = .ow (dI (lof ns))
theorem ok_lowest_from (T : Tx K mg base) : FnOk P w K mg base CX0 2 T.a_lowest_from T.d_lowest_from ["numbers"] (spO K 1 R_lowest_from) := by
  refine pure_okO T.F_lowest_from sc_lowest_from rfl (fun cdv A outer s H E hr => ?_)
  have nd := sc_lowest_from.nd
  have hu := hr.units
  refine ⟨_, (pss_one (ps_ret (revK K (pe_lc (own := [("number", 1)]) (g := (gName 1)) (tt := tYes) rfl nd (pi_listK K (pe_call (ok_highest_so_far T) (hr.mono (by decide)) (by rfl) T.g_highest_so_far T.F_highest_so_far.kp T.b_highest_so_far .nil pass0 (pa_cons (pe_lc (own := [("number", 1)]) (g := (gName 1)) (tt := tYes) rfl nd (pi_revK K (by rfl) T.m_reversed (pa_cons (pv 0) pa_nil)) (blkOk_by (own := [("number", 1)]) (N := N_lowest_from) (sc := defScope s_lowest_from) (by decide +kernel)) (fun _ _ _ _ _ => (pg_name (i := 1) nd rfl (by first | exact Or.inl rfl | exact Or.inr rfl))) (fun _ _ _ _ _ => pts_nil) (fun _ _ _ _ _ => (pe_un un_neg (pv 1)))) pa_nil))) (blkOk_by (own := [("number", 1)]) (N := N_lowest_from) (sc := defScope s_lowest_from) (by decide +kernel)) (fun _ _ _ _ _ => (pg_name (i := 1) nd rfl (by first | exact Or.inl rfl | exact Or.inr rfl))) (fun _ _ _ _ _ => pts_nil) (fun _ _ _ _ _ => (pe_un un_neg (pv 1))))))), fun ds d h => ?_⟩
  obtain ⟨ns, rfl, hl, rfl⟩ := h
  change DS _ _ [B.im _, B.no] _
  have ln : (negs ns.reverse).length ≤ 1000 := by
    unfold negs
    rw [List.length_map, List.length_reverse]
    exact hl
  refine ds_retX (w := .ow (dI (negs (hsf (negs ns.reverse)))).reverse) (dxo (dx_rev ?_)) ?_
  · apply de_lcI (fun x : Int => -x) (xs := hsf (negs ns.reverse)) (enc := D.int)
    · apply di_list
      refine de_callO (da_cons ?_ da_nil) (c_highest_so_far ln) rfl rfl
      apply de_lcI (fun x : Int => -x) (xs := ns.reverse) (enc := D.int)
      · rw [List.map_reverse]
        exact di_rev (da_cons (de_var rfl) da_nil)
      · rw [List.length_reverse]
        omega
      · intro x hx
        refine ⟨_, dg_name _ (by decide), ?_⟩
        walk_at "de"
    · rw [hsf_len]
      omega
    · intro x hx
      refine ⟨_, dg_name _ (by decide), ?_⟩
      walk_at "de"
  · show B.ow _ = B.ow _
    unfold lof dI
    rw [List.map_reverse]
theorem c_lowest_from {ns : List Int} (h : ns.length ≤ 1000) : R_lowest_from [.lst (dI ns)] (.ow (dI (lof ns))) := ⟨_, rfl, h, rfl⟩
theorem lof_len (ns : List Int) : (lof ns).length = ns.length := by
  unfold lof negs
  rw [List.length_reverse, List.length_map, hsf_len, List.length_map, List.length_reverse]
theorem getD_map0 {ns : List Int} {i : Nat} (h : i < ns.length) (f : Int → Int) : (ns.map f).getD i 0 = f (ns.getD i 0) := by
  rw [List.getD_eq_getElem?_getD, List.getD_eq_getElem?_getD, List.getElem?_map, List.getElem?_eq_getElem h]
  rfl
theorem getD_rev {ns : List Int} {i : Nat} (h : i < ns.length) : ns.reverse.getD i 0 = ns.getD (ns.length - 1 - i) 0 := by
  rw [List.getD_eq_getElem?_getD, List.getD_eq_getElem?_getD, List.getElem?_reverse h]
theorem lof_at {ns : List Int} {i : Nat} (h : i < ns.length) : (lof ns).getD i 0 = -hiAt (negs ns.reverse) (ns.length - 1 - i) := by
  have l1 : (negs ns.reverse).length = ns.length := by
    unfold negs
    rw [List.length_map, List.length_reverse]
  have l2 : (negs (hsf (negs ns.reverse))).length = ns.length := by
    unfold negs at *
    rw [List.length_map, hsf_len, l1]
  have l3 : (hsf (negs ns.reverse)).length = ns.length := by rw [hsf_len, l1]
  unfold lof
  rw [getD_rev (by rw [l2]; exact h), l2]
  show (List.map _ _).getD _ 0 = _
  rw [getD_map0 (by rw [l3]; omega), hsf_at (by rw [l1]; omega)]
theorem neg_at {ns : List Int} {j : Nat} (h : j < ns.length) : (negs ns.reverse).getD j 0 = -ns.getD (ns.length - 1 - j) 0 := by
  unfold negs
  rw [getD_map0 (by rw [List.length_reverse]; exact h), getD_rev h]
theorem hi_ge (ns : List Int) : ∀ i, ns.getD i 0 ≤ hiAt ns i
  | 0 => Int.le_refl _
  | i + 1 => by
    show _ ≤ if hiAt ns i < ns.getD (i + 1) 0 then ns.getD (i + 1) 0 else hiAt ns i
    split <;> omega
theorem hi_up (ns : List Int) (i : Nat) : hiAt ns i ≤ hiAt ns (i + 1) := by
  show _ ≤ if hiAt ns i < ns.getD (i + 1) 0 then ns.getD (i + 1) 0 else hiAt ns i
  split <;> omega
theorem hi_or (ns : List Int) (i : Nat) : hiAt ns (i + 1) = ns.getD (i + 1) 0 ∨ hiAt ns (i + 1) = hiAt ns i := by
  show (if hiAt ns i < ns.getD (i + 1) 0 then ns.getD (i + 1) 0 else hiAt ns i) = _ ∨ (if hiAt ns i < ns.getD (i + 1) 0 then ns.getD (i + 1) 0 else hiAt ns i) = _
  split
  · exact .inl rfl
  · exact .inr rfl
theorem hi_mono (ns : List Int) {i : Nat} : ∀ {k : Nat}, i ≤ k → hiAt ns i ≤ hiAt ns k
  | 0, h => by
    obtain rfl : i = 0 := by omega
    exact Int.le_refl _
  | k + 1, h => by
    by_cases e : i = k + 1
    · rw [e]
      exact Int.le_refl _
    · exact Int.le_trans (hi_mono ns (k := k) (by omega)) (hi_up ns k)
theorem hi_ex (ns : List Int) : ∀ i, ∃ k, k ≤ i ∧ hiAt ns i = ns.getD k 0
  | 0 => ⟨0, Nat.le_refl _, rfl⟩
  | i + 1 => by
    rcases hi_or ns i with e | e
    · exact ⟨i + 1, Nat.le_refl _, e⟩
    · obtain ⟨k, h1, h2⟩ := hi_ex ns i
      exact ⟨k, by omega, e.trans h2⟩
theorem lo_le {ns : List Int} {i : Nat} (h : i < ns.length) : (lof ns).getD i 0 ≤ ns.getD i 0 := by
  rw [lof_at h]
  have h1 := hi_ge (negs ns.reverse) (ns.length - 1 - i)
  rw [neg_at (by omega), show ns.length - 1 - (ns.length - 1 - i) = i by omega] at h1
  omega
theorem lo_up {ns : List Int} {i : Nat} (h : i + 1 < ns.length) : (lof ns).getD i 0 ≤ (lof ns).getD (i + 1) 0 := by
  rw [lof_at h, lof_at (by omega)]
  have h1 := hi_up (negs ns.reverse) (ns.length - 1 - (i + 1))
  rw [show ns.length - 1 - (i + 1) + 1 = ns.length - 1 - i by omega] at h1
  omega
theorem lo_or {ns : List Int} {i : Nat} (h : i < ns.length) : (lof ns).getD i 0 = ns.getD i 0 ∨ (i + 1 < ns.length ∧ (lof ns).getD i 0 = (lof ns).getD (i + 1) 0) := by
  by_cases e : i + 1 < ns.length
  · rw [lof_at h, lof_at e]
    have h1 := hi_or (negs ns.reverse) (ns.length - 1 - (i + 1))
    rw [show ns.length - 1 - (i + 1) + 1 = ns.length - 1 - i by omega, neg_at (by omega), show ns.length - 1 - (ns.length - 1 - i) = i by omega] at h1
    rcases h1 with h1 | h1
    · exact .inl (by omega)
    · exact .inr ⟨e, by omega⟩
  · left
    rw [lof_at h, show ns.length - 1 - i = 0 by omega]
    show -(negs ns.reverse).getD 0 0 = _
    rw [neg_at (by omega), show ns.length - 1 - 0 = i by omega]
    omega
theorem lo_mono {ns : List Int} {i : Nat} : ∀ {k : Nat}, i ≤ k → k < ns.length → (lof ns).getD i 0 ≤ (lof ns).getD k 0
  | 0, h, _ => by
    obtain rfl : i = 0 := by omega
    exact Int.le_refl _
  | k + 1, h, hk => by
    by_cases e : i = k + 1
    · rw [e]
      exact Int.le_refl _
    · have hik : i ≤ k := Nat.le_of_lt_succ (Nat.lt_of_le_of_ne h e)
      have hk2 : k < ns.length := Nat.lt_of_succ_lt hk
      have q := lo_mono hik hk2
      exact Int.le_trans q (lo_up hk)
theorem lo_ex {ns : List Int} : ∀ (n i : Nat), i + n + 1 = ns.length → ∃ k, i ≤ k ∧ k < ns.length ∧ (lof ns).getD i 0 = ns.getD k 0
  | 0, i, h => by
    rcases lo_or (ns := ns) (i := i) (by omega) with e | ⟨e, _⟩
    · exact ⟨i, Nat.le_refl _, by omega, e⟩
    · omega
  | n + 1, i, h => by
    rcases lo_or (ns := ns) (i := i) (by omega) with e | ⟨e1, e2⟩
    · exact ⟨i, Nat.le_refl _, by omega, e⟩
    · obtain ⟨k, h1, h2, h3⟩ := lo_ex (ns := ns) n (i + 1) (by omega)
      exact ⟨k, Nat.le_of_succ_le h1, h2, e2.trans h3⟩
/-! ## upper, lower, the band -/
def R_upper (ds : List D) (d : B) : Prop := ∃ ns : List Int, ds = [.lst (dI ns)] ∧ ns.length ≤ 1000 ∧ d = .ow (dI (hsf ns))
theorem ok_upper (T : Tx K mg base) : FnOk P w K mg base CX0 4 T.a_upper T.d_upper ["numbers"] (spO K 1 R_upper) := by
  refine pure_okO T.F_upper sc_upper rfl (fun cdv A outer s H E hr => ?_)
  have nd := sc_upper.nd
  have hu := hr.units
  refine ⟨_, (pss_cons (ps_expr (pe_call (ok_check_numbers T) (hr.mono (by decide)) (by rfl) T.g_check_numbers T.F_check_numbers.kp T.b_check_numbers .nil pass0 (pa_cons (pv 0) pa_nil)))
      (pss_one (ps_ret (pe_call (ok_highest_so_far T) (hr.mono (by decide)) (by rfl) T.g_highest_so_far T.F_highest_so_far.kp T.b_highest_so_far .nil pass0 (pa_cons (pv 0) pa_nil))))), fun ds d h => ?_⟩
  obtain ⟨ns, rfl, hl, rfl⟩ := h
  change DS _ _ [B.im _] _
  walk_at "drop"
  · exact hl
  exact ds_retX (dxo (dx_call (da_cons (de_var rfl) da_nil) (c_highest_so_far hl) rfl)) rfl
theorem c_upper {ns : List Int} (h : ns.length ≤ 1000) : R_upper [.lst (dI ns)] (.ow (dI (hsf ns))) := ⟨_, rfl, h, rfl⟩
def R_lower (ds : List D) (d : B) : Prop := ∃ ns : List Int, ds = [.lst (dI ns)] ∧ ns.length ≤ 1000 ∧ d = .ow (dI (lof ns))
theorem ok_lower (T : Tx K mg base) : FnOk P w K mg base CX0 4 T.a_lower T.d_lower ["numbers"] (spO K 1 R_lower) := by
  refine pure_okO T.F_lower sc_lower rfl (fun cdv A outer s H E hr => ?_)
  have nd := sc_lower.nd
  have hu := hr.units
  refine ⟨_, (pss_cons (ps_expr (pe_call (ok_check_numbers T) (hr.mono (by decide)) (by rfl) T.g_check_numbers T.F_check_numbers.kp T.b_check_numbers .nil pass0 (pa_cons (pv 0) pa_nil)))
      (pss_one (ps_ret (pe_call (ok_lowest_from T) (hr.mono (by decide)) (by rfl) T.g_lowest_from T.F_lowest_from.kp T.b_lowest_from .nil pass0 (pa_cons (pv 0) pa_nil))))), fun ds d h => ?_⟩
  obtain ⟨ns, rfl, hl, rfl⟩ := h
  change DS _ _ [B.im _] _
  walk_at "drop"
  · exact hl
  exact ds_retX (dxo (dx_call (da_cons (de_var rfl) da_nil) (c_lowest_from hl) rfl)) rfl
theorem c_lower {ns : List Int} (h : ns.length ≤ 1000) : R_lower [.lst (dI ns)] (.ow (dI (lof ns))) := ⟨_, rfl, h, rfl⟩
abbrev bandF (x y : D) : List (Str × D) := [("lows", x), ("highs", y)]
abbrev bandC (xs ys : List D) : List (Str × Ch) := [("lows", .ow xs), ("highs", .ow ys)]
abbrev barF (x y : D) : List (Str × D) := [("first", x), ("second", y)]
abbrev barC (x y : D) : List (Str × Ch) := [("first", .st x), ("second", .st y)]
def R_Band___init__ (ds : List D) (fs : List (Str × Ch)) : Prop := ∃ xs ys, ds = [.lst xs, .lst ys] ∧ fs = bandC xs ys
theorem ok_Band___init__ (T : Tx K mg base) : FnOk P w K mg base CX0 1 T.a_Band___init__ T.d_Band___init__ ["self", "lows", "highs"] (spI K T.C_Band 2 R_Band___init__) := by
  refine pure_okI T.F_Band___init__ sc_Band___init__ rfl (by decide) (fun cdv A outer s H E hr => ?_)
  have nd := sc_Band___init__.nd
  have hu := hr.units
  refine ⟨_, (pss_cons (ps_fldK K (pv 0) (pe_callTy (listK K) (by rfl) T.m_list bt_list (pa_cons (pv 1) pa_nil)) rfl)
      (pss_one (ps_fldK K (pv 0) (pe_callTy (listK K) (by rfl) T.m_list bt_list (pa_cons (pv 2) pa_nil)) rfl))), fun p ds fs h => ?_⟩
  obtain ⟨xs, ys, rfl, rfl⟩ := h
  change DS _ _ (B.oo _ _ [] :: [B.im _, B.im _]) _
  apply ds_seq
  apply ds_fldI (c := .ow xs) 0
  · rfl
  · exact T.c_Band
  · exact T.n_Band_lows
  · walk_at "lc"
  · exact Nat.le_of_ble_eq_true rfl
  · walk_at "pc"
  · exact dxo (dx_list (da_cons (de_var rfl) da_nil))
  apply ds_fldI (c := .ow ys) 0
  · rfl
  · exact T.c_Band
  · exact T.n_Band_highs
  · walk_at "lc"
  · exact Nat.le_of_ble_eq_true rfl
  · walk_at "pc"
  · exact dxo (dx_list (da_cons (de_var rfl) da_nil))
  rfl
theorem c_Band___init__ {xs ys : List D} : R_Band___init__ [.lst xs, .lst ys] (bandC xs ys) := ⟨_, _, rfl, rfl⟩
def R_Barred___init__ (ds : List D) (fs : List (Str × Ch)) : Prop := ∃ x y, ds = [x, y] ∧ fs = barC x y
theorem ok_Barred___init__ (T : Tx K mg base) : FnOk P w K mg base CX0 1 T.a_Barred___init__ T.d_Barred___init__ ["self", "first", "second"] (spI K T.C_Barred 2 R_Barred___init__) := by
  refine pure_okI T.F_Barred___init__ sc_Barred___init__ rfl (by decide) (fun cdv A outer s H E hr => ?_)
  have nd := sc_Barred___init__.nd
  have hu := hr.units
  refine ⟨_, (pss_cons (ps_fldK K (pv 0) (pv 1) rfl)
      (pss_one (ps_fldK K (pv 0) (pv 2) rfl))), fun p ds fs h => ?_⟩
  obtain ⟨x, y, rfl, rfl⟩ := h
  change DS _ _ (B.oo _ _ [] :: [B.im _, B.im _]) _
  apply ds_seq
  apply ds_fldI (c := .st x) 0
  · rfl
  · exact T.c_Barred
  · exact T.n_Barred_first
  · walk_at "lc"
  · exact Nat.le_of_ble_eq_true rfl
  · walk_at "pc"
  · exact deo (de_var rfl)
  apply ds_fldI (c := .st y) 0
  · rfl
  · exact T.c_Barred
  · exact T.n_Barred_second
  · walk_at "lc"
  · exact Nat.le_of_ble_eq_true rfl
  · walk_at "pc"
  · exact deo (de_var rfl)
  rfl
theorem c_Barred___init__ {x y : D} : R_Barred___init__ [x, y] (barC x y) := ⟨_, _, rfl, rfl⟩
/-- does a band show what it tells -/
def lowsOf (ns : List Int) (m : Int) : List Int := (hsf ns).map fun x => x - m
def highsOf (ns : List Int) (m : Int) : List Int := (lof ns).map fun x => x + m
def bandOk (ns ls hs : List Int) (m : Int) : Bool :=
  if ls = lowsOf ns m then (if hs = highsOf ns m then ((List.range ns.length).map fun i => decide (ls.getD i 0 ≤ hs.getD i 0)).all id else false) else false
theorem lows_len (ns : List Int) (m : Int) : (lowsOf ns m).length = ns.length := by
  unfold lowsOf
  rw [List.length_map, hsf_len]
theorem highs_len (ns : List Int) (m : Int) : (highsOf ns m).length = ns.length := by
  unfold highsOf
  rw [List.length_map, lof_len]
def R_Band_shows (C : Addr) (ds : List D) (d : D) : Prop := ∃ (ns ls hs : List Int) (m : Int), ds = [.ins C (bandF (.lst (dI ls)) (.lst (dI hs))), .lst (dI ns), .int m] ∧ ns.length ≤ 1000 ∧ d = .bl (bandOk ns ls hs m)
theorem ok_Band_shows (T : Tx K mg base) : FnOk P w K mg base CX0 3 T.a_Band_shows T.d_Band_shows ["self", "numbers", "most"] (spR K 3 (R_Band_shows T.C_Band)) := by
  refine pure_ok T.F_Band_shows sc_Band_shows rfl (fun cdv A outer s H E hr => ?_)
  have nd := sc_Band_shows.nd
  have hu := hr.units
  refine ⟨_, (pss_cons (ps_if (pt_cmpR (neK K hu) (fldK K (pv 0) rfl) (pe_lc (own := [("number", 3)]) (g := (gName 3)) (tt := tYes) rfl nd (pi_listK K (pe_call (ok_highest_so_far T) (hr.mono (by decide)) (by rfl) T.g_highest_so_far T.F_highest_so_far.kp T.b_highest_so_far .nil pass0 (pa_cons (pv 1) pa_nil))) (blkOk_by (own := [("number", 3)]) (N := N_Band_shows) (sc := defScope s_Band_shows) (by decide +kernel)) (fun _ _ _ _ _ => (pg_name (i := 3) nd rfl (by first | exact Or.inl rfl | exact Or.inr rfl))) (fun _ _ _ _ _ => pts_nil) (fun _ _ _ _ _ => (pe_op op_sub (pv 3) (pv 2)))) (nomark _)) (pss_one (ps_ret pe_bl)) pss_nil)
      (pss_cons (ps_if (pt_cmpR (neK K hu) (fldK K (pv 0) rfl) (pe_lc (own := [("number", 3)]) (g := (gName 3)) (tt := tYes) rfl nd (pi_listK K (pe_call (ok_lowest_from T) (hr.mono (by decide)) (by rfl) T.g_lowest_from T.F_lowest_from.kp T.b_lowest_from .nil pass0 (pa_cons (pv 1) pa_nil))) (blkOk_by (own := [("number", 3)]) (N := N_Band_shows) (sc := defScope s_Band_shows) (by decide +kernel)) (fun _ _ _ _ _ => (pg_name (i := 3) nd rfl (by first | exact Or.inl rfl | exact Or.inr rfl))) (fun _ _ _ _ _ => pts_nil) (fun _ _ _ _ _ => (pe_op (addK K) (pv 3) (pv 2)))) (nomark _)) (pss_one (ps_ret pe_bl)) pss_nil)
      (pss_one (ps_ret (pe_callB (allK K rfl) (by rfl) T.m_all bt_all (pa_cons (pe_lc (own := [("at", 4)]) (g := (gName 4)) (tt := tYes) rfl nd (pi_range1 (by rfl) T.m_range (pa_cons (pe_callB (lenK K) (by rfl) T.m_len bt_len (pa_cons (pv 1) pa_nil)) pa_nil)) (blkOk_by (own := [("at", 4)]) (N := N_Band_shows) (sc := defScope s_Band_shows) (by decide +kernel)) (fun _ _ _ _ _ => (pg_name (i := 4) nd rfl (by first | exact Or.inl rfl | exact Or.inr rfl))) (fun _ _ _ _ _ => pts_nil) (fun _ _ _ _ _ => (pe_cmpR op_le (pe_ix (ixK K) (fldK K (pv 0) rfl) (pv 4) (fun _ _ => rfl)) (pe_ix (ixK K) (fldK K (pv 0) rfl) (pv 4) (fun _ _ => rfl)) (nomark _)))) pa_nil)))))), fun ds d h => ?_⟩
  obtain ⟨ns, ls, hs, m, rfl, hl, rfl⟩ := h
  change DS _ _ [B.im _, B.im _, B.im _, B.no, B.no] _
  unfold bandF bandOk
  apply ds_seq
  apply ds_if (b := !decide (ls = lowsOf ns m))
  · refine dto (dt_test (de_op (by walk_at "de") ?_ r2_neL))
    apply de_lcI (fun x => x - m) (xs := hsf ns) (enc := D.int)
    · exact di_list (de_callO (da_cons (de_var rfl) da_nil) (c_highest_so_far hl) rfl rfl)
    · rw [hsf_len]
      omega
    · intro x hx
      refine ⟨_, dg_name _ (by decide), ?_⟩
      walk_at "de"
  · intro hb
    rw [if_neg (by simpa using hb)]
    walk_at "ret"
    rfl
  intro hb
  have h1 : ls = lowsOf ns m := by simpa using hb
  rw [if_pos h1]
  apply ds_next
  apply ds_seq
  apply ds_if (b := !decide (hs = highsOf ns m))
  · refine dto (dt_test (de_op (by walk_at "de") ?_ r2_neL))
    apply de_lcI (fun x => x + m) (xs := lof ns) (enc := D.int)
    · exact di_list (de_callO (da_cons (de_var rfl) da_nil) (c_lowest_from hl) rfl rfl)
    · rw [lof_len]
      omega
    · intro x hx
      refine ⟨_, dg_name _ (by decide), ?_⟩
      walk_at "de"
  · intro hb
    rw [if_neg (by simpa using hb)]
    walk_at "ret"
    rfl
  intro hb
  have h2 : hs = highsOf ns m := by simpa using hb
  rw [if_pos h2]
  apply ds_next
  have l1 : ls.length = ns.length := by rw [h1, lows_len]
  have l2 : hs.length = ns.length := by rw [h2, highs_len]
  walk_at "ret"
  · apply de_lcB (fun i : Nat => decide (ls.getD i 0 ≤ hs.getD i 0)) (di_rng1 (da_cons (de_cb (da_cons (de_var rfl) da_nil) rc_lenL) da_nil) (by rw [List.length_map]; omega)) (by rw [List.length_range, List.length_map]; omega)
    intro x hx
    have hx' : x < ns.length := by
      rw [List.length_map] at hx
      exact List.mem_range.mp hx
    refine ⟨_, dg_name _ (by decide), ?_⟩
    walk_at "de"
    · omega
    · omega
  walk_at "de"
  · show D.bl _ = D.bl _
    rw [List.length_map]
theorem c_Band_shows {C : Addr} {ns ls hs : List Int} {m : Int} (h : ns.length ≤ 1000) : R_Band_shows C [.ins C (bandF (.lst (dI ls)) (.lst (dI hs))), .lst (dI ns), .int m] (.bl (bandOk ns ls hs m)) := ⟨_, _, _, _, rfl, h, rfl⟩
def barOk (ns : List Int) (a b m : Int) : Bool := if 0 ≤ a ∧ a < b ∧ b < ns.length then decide (2 * m < ns.getD a.toNat 0 - ns.getD b.toNat 0) else false
def R_Barred_shows (C : Addr) (ds : List D) (d : D) : Prop := ∃ (ns : List Int) (a b m : Int), ds = [.ins C (barF (.int a) (.int b)), .lst (dI ns), .int m] ∧ d = .bl (barOk ns a b m)
theorem ok_Barred_shows (T : Tx K mg base) : FnOk P w K mg base CX0 1 T.a_Barred_shows T.d_Barred_shows ["self", "numbers", "most"] (spR K 3 (R_Barred_shows T.C_Barred)) := by
  refine pure_ok T.F_Barred_shows sc_Barred_shows rfl (fun cdv A outer s H E hr => ?_)
  have nd := sc_Barred_shows.nd
  have hu := hr.units
  refine ⟨_, (pss_cons (ps_if (pt_not (pt_chain3 op_le op_lt op_lt pe_int (fldK K (pv 0) rfl) (fldK K (pv 0) rfl) (pe_callB (lenK K) (by rfl) T.m_len bt_len (pa_cons (pv 1) pa_nil)))) (pss_one (ps_ret pe_bl)) pss_nil)
      (pss_one (ps_ret (pe_cmpR op_gt (pe_op op_sub (pe_ix (ixK K) (pv 1) (fldK K (pv 0) rfl) (fun _ _ => rfl)) (pe_ix (ixK K) (pv 1) (fldK K (pv 0) rfl) (fun _ _ => rfl))) (pe_op (mulK K) pe_int (pv 2)) (nomark _))))), fun ds d h => ?_⟩
  obtain ⟨ns, a, b, m, rfl, rfl⟩ := h
  change DS _ _ [B.im _, B.im _, B.im _] _
  unfold barF barOk
  apply ds_seq
  apply ds_if
  · apply dto
    walk_at "de"
  · intro hb
    rw [if_neg]
    · walk_at "ret"
      · rfl
    · simp at hb
      omega
  · intro hb
    have h3 : 0 ≤ a ∧ a < b ∧ b < ns.length := by
      simp at hb
      exact hb
    rw [if_pos h3]
    apply ds_next
    walk_at "ret"
    all_goals first | omega | exact mul2l | rfl
theorem c_Barred_shows {C : Addr} {ns : List Int} {a b m : Int} : R_Barred_shows C [.ins C (barF (.int a) (.int b)), .lst (dI ns), .int m] (.bl (barOk ns a b m)) := ⟨_, _, _, _, rfl, rfl⟩
local macro_rules | `(tactic| walk_at "d1") => `(tactic| first | with_reducible apply c_Band_shows | with_reducible exact c_Barred_shows)
/-- is it barred -/
def barredB (ns : List Int) (m : Int) : Bool := decide ((first ns : Int) < second ns) && decide (2 * m < ns.getD (first ns) 0 - ns.getD (second ns) 0)
theorem fs_lt2 {ns : List Int} (h : ns ≠ []) : first ns < ns.length ∧ second ns < ns.length := by
  unfold first second
  obtain ⟨n, e⟩ : ∃ n, ns.length = n + 1 := ⟨ns.length - 1, by
    have := List.length_pos_iff.mpr h
    omega⟩
  obtain ⟨_, _, h3, h4, _⟩ := wp_inv ns n
  rw [e]
  omega
theorem bar_lt {ns : List Int} (h : (first ns : Int) < second ns) : first ns < ns.length ∧ second ns < ns.length := by
  apply fs_lt2
  rintro rfl
  have e : ((first [] : Nat) : Int) = 0 := rfl
  have e2 : ((second [] : Nat) : Int) = 0 := rfl
  omega
def foundB (CB CR : Addr) (ns : List Int) (m : Int) : B := if barredB ns m = true then .oo none CR (barC (.int (first ns)) (.int (second ns))) else .oo none CB (bandC (dI (lowsOf ns m)) (dI (highsOf ns m)))
def R_band (CB CR : Addr) (ds : List D) (b : B) : Prop := ∃ (ns : List Int) (m : Int), ds = [.lst (dI ns), .int m] ∧ ns.length ≤ 1000 ∧ 0 ≤ m ∧ b = foundB CB CR ns m
theorem c_band {CB CR : Addr} {ns : List Int} {m : Int} (h : ns.length ≤ 1000) (hm : 0 ≤ m) : R_band CB CR [.lst (dI ns), .int m] (foundB CB CR ns m) := ⟨_, _, rfl, h, hm, rfl⟩
end
end U

namespace U
open PySem PySem.Spec PyProof.Rows L2 DL
section
variable {P : Program} {w : World} {K : PySem.W.Frag} {mg : Str → Option Value} {base : Heap}
local macro_rules | `(tactic| walk_at "lk") => `(tactic| first | with_reducible exact look_hit | ((with_reducible refine look_miss (by decide +kernel) ?_); walk_at "lk") | with_reducible exact look_nil)
local macro_rules | `(tactic| walk_at "fz") => `(tactic| simp only [fz, fzB, chF, Ch.d, List.map, List.set])
local macro_rules | `(tactic| walk_at "ob") => `(tactic| first
  | ((with_reducible show look _ _ = _); walk_at "lk")
  | with_reducible apply de_callO | ((with_reducible show B.d _ = _); rfl) | ((with_reducible apply de_either1); (with_reducible apply de_meth); exact de_var rfl) | ((with_reducible apply de_either2); (with_reducible apply de_meth); exact de_var rfl)
  | with_reducible exact de_cls | with_reducible apply de_fld | with_reducible apply rc_isC | with_reducible apply de_meth
  | walk_at "cl")
local macro_rules | `(tactic| walk_at "r2") => `(tactic| (fail_if_success (with_reducible show R2D _ _ D.non _ _)); (fail_if_success (with_reducible show R2D _ _ _ D.non _)); first
  | exact r2_add | exact r2_sub | exact r2_lt | exact r2_le | exact r2_gt | exact r2_ge
  | with_reducible exact r2_p30 | with_reducible exact r2_p9
  | with_reducible apply r2_mod | with_reducible apply r2_fdiv | with_reducible apply r2_mul | with_reducible apply r2_pow | with_reducible apply r2_cat | with_reducible apply r2_rep1
  | exact r2_ixT rfl | exact r2_ixL rfl | with_reducible apply r2_ixN | with_reducible apply r2_ixI
  | exact r2_eqI | exact r2_neI | exact r2_eqB | exact r2_neB | exact r2_eqL | exact r2_neL | exact r2_isB | exact r2_notB)
local macro_rules | `(tactic| walk_at "rc") => `(tactic| (fail_if_success (with_reducible show RCD _ _ [D.non] _)); (fail_if_success (with_reducible show RCD _ _ [D.non, _] _)); (fail_if_success (with_reducible show RCD _ _ [_, D.non] _)); first
  | with_reducible exact rc_srt
  | exact rc_abs | exact rc_max2 | exact rc_min2 | exact rc_sum | exact rc_all | exact rc_any | exact rc_lenL | exact rc_lenT | exact rc_listL | exact rc_listT
  | with_reducible apply rc_int | with_reducible apply rc_bool | with_reducible apply rc_list | with_reducible apply rc_tuple)
local macro_rules | `(tactic| walk_at "d1") => `(tactic| first
  | with_reducible exact de_int | with_reducible exact de_bl | with_reducible exact de_non | exact de_var rfl
  | with_reducible exact da_nil | with_reducible apply da_cons
  | with_reducible apply de_op | with_reducible apply de_un | with_reducible apply de_cb | with_reducible apply de_call
  | with_reducible apply de_tup | with_reducible apply de_lst
  | with_reducible apply de_andV | with_reducible apply de_orV | with_reducible apply de_notV | ((with_reducible show _ = true → _); intro _) | ((with_reducible show _ = false → _); intro _)
  | with_reducible apply dt_and | with_reducible apply dt_or | with_reducible apply dt_not | with_reducible apply dt_test | with_reducible apply dt_B
  | with_reducible apply de_slice | with_reducible exact do_none | with_reducible apply do_some | with_reducible apply de_rev
  | with_reducible apply de_maxD | with_reducible apply de_chain3 | with_reducible apply de_chain
  | walk_at "r2" | walk_at "rc" | walk_at "ob"
  | ((with_reducible show R1D _ _ (D.int _) _); exact r1_neg)
  | with_reducible exact de_ty
  | with_reducible exact ne_int | with_reducible exact ne_lst | with_reducible exact ne_tup | with_reducible exact ne_bl
  | ((with_reducible show List.length _ = _); rfl) | ((with_reducible show List.length _ + 1 = _); rfl)
  | (with_reducible show List.length _ ≤ 1000); exact Nat.le_of_ble_eq_true rfl)
local macro_rules | `(tactic| walk_at "dg") => `(tactic| repeat' (first | exact dg_name _ trivial | exact dg_name _ (by decide) | with_reducible exact dg_nil | with_reducible apply dg_cons | with_reducible apply dg_tup | ((with_reducible show List.length _ = _); rfl)))
local macro_rules | `(tactic| walk_at "de") => `(tactic| repeat' walk_at "d1")
local macro_rules | `(tactic| walk_at "ret") => `(tactic| (apply ds_ret; apply deo; walk_at "de"))
local macro_rules | `(tactic| walk_at "asg") => `(tactic| (apply ds_seq; apply ds_asg; apply deo; walk_at "de"))
local macro_rules | `(tactic| walk_at "drop") => `(tactic| (apply ds_seq; apply ds_drop; apply deo; walk_at "de"))
local macro_rules | `(tactic| walk_at "par") => `(tactic| (apply ds_seq; apply ds_par; apply dao; walk_at "de"))
local macro_rules | `(tactic| walk_at "parG") => `(tactic| (apply ds_seq; apply ds_asgG; apply deo; walk_at "de"; walk_at "dg"))
local macro_rules | `(tactic| walk_at "lc") => `(tactic| first | with_reducible exact lookC_hit | with_reducible exact lookC_nil | ((with_reducible refine lookC_miss (by decide +kernel) ?_); walk_at "lc"))
local macro_rules | `(tactic| walk_at "pc") => `(tactic| first | with_reducible exact putC_hit | with_reducible exact putC_nil | ((with_reducible apply putC_miss); (decide +kernel); (walk_at "pc")))
local macro_rules | `(tactic| walk_at "cl") => `(tactic| first | with_reducible exact Tx.c_Band _ | with_reducible exact Tx.i_Band _ | with_reducible exact Tx.n_Band_lows _ | with_reducible exact Tx.n_Band_highs _ | with_reducible exact Tx.c_Barred _ | with_reducible exact Tx.i_Barred _ | with_reducible exact Tx.n_Barred_first _ | with_reducible exact Tx.n_Barred_second _ | with_reducible exact Tx.c_Evened _ | with_reducible exact Tx.i_Evened _ | with_reducible exact Tx.n_Evened_row _ | with_reducible exact Tx.n_Evened_first _ | with_reducible exact Tx.n_Evened_second _ | with_reducible exact Tx.c_Squared _ | with_reducible exact Tx.i_Squared _ | with_reducible exact Tx.n_Squared_row _ | with_reducible exact Tx.c_Summed _ | with_reducible exact Tx.i_Summed _ | with_reducible exact Tx.n_Summed_row _ | with_reducible exact Tx.n_Summed_pulls _ | with_reducible exact Tx.is_Band_Barred _ | with_reducible exact Tx.is_Band_Evened _ | with_reducible exact Tx.is_Band_Squared _ | with_reducible exact Tx.is_Band_Summed _ | with_reducible exact Tx.is_Barred_Band _ | with_reducible exact Tx.is_Barred_Evened _ | with_reducible exact Tx.is_Barred_Squared _ | with_reducible exact Tx.is_Barred_Summed _ | with_reducible exact Tx.is_Evened_Band _ | with_reducible exact Tx.is_Evened_Barred _ | with_reducible exact Tx.is_Evened_Squared _ | with_reducible exact Tx.is_Evened_Summed _ | with_reducible exact Tx.is_Squared_Band _ | with_reducible exact Tx.is_Squared_Barred _ | with_reducible exact Tx.is_Squared_Evened _ | with_reducible exact Tx.is_Squared_Summed _ | with_reducible exact Tx.is_Summed_Band _ | with_reducible exact Tx.is_Summed_Barred _ | with_reducible exact Tx.is_Summed_Evened _ | with_reducible exact Tx.is_Summed_Squared _| with_reducible exact (Tx.i_Band _).me | with_reducible exact (Tx.i_Barred _).me | with_reducible exact (Tx.i_Evened _).me | with_reducible exact (Tx.i_Squared _).me | with_reducible exact (Tx.i_Summed _).me)
local macro_rules | `(tactic| walk_at "d1") => `(tactic| first | exact c_common | with_reducible apply c_is_number)
local macro_rules | `(tactic| walk_at "d1") => `(tactic| with_reducible apply c_lowest)
local macro_rules | `(tactic| walk_at "d1") => `(tactic| with_reducible apply c_are_numbers)
local macro_rules | `(tactic| walk_at "d1") => `(tactic| with_reducible apply c_check_numbers)
local macro_rules | `(tactic| walk_at "d1") => `(tactic| with_reducible apply c_check_row)
local macro_rules | `(tactic| walk_at "d1") => `(tactic| with_reducible apply c_check_weights)
local macro_rules | `(tactic| walk_at "d1") => `(tactic| with_reducible apply c_greatest_of)
local macro_rules | `(tactic| walk_at "d1") => `(tactic| with_reducible apply c_sum_of)
local macro_rules | `(tactic| walk_at "d1") => `(tactic| first | with_reducible apply c_greatest | with_reducible apply c_summed_up | with_reducible exact c_is_fraction)
local macro_rules | `(tactic| walk_at "d1") => `(tactic| first | with_reducible exact c__law_whole2 | with_reducible apply c__law_whole)
local macro_rules | `(tactic| walk_at "d1") => `(tactic| with_reducible first | exact div21 | exact div3 | exact div2 | exact div5 | exact div7 | exact div30 | exact div230 | exact pos21 | exact pos2 | exact pos3 | exact pos5 | exact pos7 | exact pos9 | exact pos12 | exact posE30 | exact posE9 | exact mul2 | exact mul2l | exact mul3l)
local macro_rules | `(tactic| walk_at "d1") => `(tactic| first | with_reducible apply c__law_numbers | with_reducible apply c__law_weights)
local macro_rules | `(tactic| walk_at "d1") => `(tactic| with_reducible apply c_rises)
local macro_rules | `(tactic| walk_at "d1") => `(tactic| with_reducible apply c_highest_so_far)
local macro_rules | `(tactic| walk_at "d1") => `(tactic| with_reducible apply c_worst_places)
local macro_rules | `(tactic| walk_at "d1") => `(tactic| with_reducible apply c_Evened_shows)
local macro_rules | `(tactic| walk_at "d1") => `(tactic| with_reducible apply c__law_rises)
local macro_rules | `(tactic| walk_at "d1") => `(tactic| first | with_reducible apply c__law_even | with_reducible apply c__law_whole | with_reducible exact c__law_whole2)
local macro_rules | `(tactic| walk_at "d1") => `(tactic| first | with_reducible apply c_Band_shows | with_reducible exact c_Barred_shows)
/-! ## squared: the stack of blocks -/
structure Bk where
  m : Nat
  t : Int
  w : Int
def Bk.d (b : Bk) : D := .tup [.int (b.m : Int), .int b.t, .int b.w]
def Bk.add (c b : Bk) : Bk := ⟨c.m + b.m, c.t + b.t, c.w + b.w⟩
def mrg : List Bk → Bk → List Bk
  | [], c => [c]
  | b :: r, c => if c.t * b.w < b.t * c.w then mrg r (c.add b) else c :: b :: r
def blk1 (ns ws : List Int) (i : Nat) : Bk := ⟨1, ws.getD i 0 * ns.getD i 0, ws.getD i 0⟩
def stk (ns ws : List Int) : Nat → List Bk
  | 0 => []
  | i + 1 => mrg (stk ns ws i) (blk1 ns ws i)
def tot (r : List Bk) : Nat := (r.map Bk.m).sum
def Bk.q (b : Bk) : Rat := frac b.t b.w
def Bk.qs (b : Bk) : List Rat := List.replicate b.m b.q
def rowOf (ns ws : List Int) : List Rat := ((stk ns ws ns.length).reverse.map Bk.qs).flatten
/-- how great they grow -/
@[irreducible] def bigB : Nat := 2 ^ 1048640
structure Bd (b : Bk) : Prop where
  t : b.t.natAbs ≤ b.m * bigB
  w0 : 0 < b.w
  w : b.w.natAbs ≤ b.m * 2 ^ 40
  m : 0 < b.m
theorem Bd.add {c b : Bk} (h : Bd c) (k : Bd b) : Bd (c.add b) := by
  refine ⟨?_, ?_, ?_, ?_⟩
  · show (c.t + b.t).natAbs ≤ (c.m + b.m) * bigB
    rw [Nat.add_mul]
    have := Int.natAbs_add_le c.t b.t
    have := h.t
    have := k.t
    omega
  · show 0 < c.w + b.w
    have := h.w0
    have := k.w0
    omega
  · show (c.w + b.w).natAbs ≤ (c.m + b.m) * 2 ^ 40
    rw [Nat.add_mul]
    have := Int.natAbs_add_le c.w b.w
    have := h.w
    have := k.w
    omega
  · show 0 < c.m + b.m
    have := h.m
    omega
theorem Bd.fit {b : Bk} (h : Bd b) (hm : b.m ≤ 64) : Fit 1048647 b.t ∧ Fit 47 b.w := by
  constructor
  · constructor
    refine Nat.lt_of_le_of_lt h.t (Nat.lt_of_le_of_lt (Nat.mul_le_mul_right _ hm) ?_)
    unfold bigB
    rw [show (1048647 : Nat) = 7 + 1048640 from rfl, Nat.pow_add]
    exact Nat.mul_lt_mul_of_pos_right (by decide) (Nat.pow_pos (by decide))
  · constructor
    refine Nat.lt_of_le_of_lt h.w (Nat.lt_of_le_of_lt (Nat.mul_le_mul_right _ hm) (by decide))
theorem blk1_bd {ns ws : List Int} (hn : ∀ n ∈ ns, Fit 1048600 n) (hw : Wts ws) (he : ws.length = ns.length) {i : Nat} (hi : i < ns.length) : Bd (blk1 ns ws i) := by
  have h1 := hw _ (getD_mem (z := 0) (show i < ws.length by omega))
  have fw : Fit 40 (ws.getD i 0) := ⟨by omega⟩
  have fn := (fw.mul (hn _ (getD_mem (z := 0) hi))).1
  refine ⟨?_, h1.1, ?_, Nat.one_pos⟩
  · show _ ≤ 1 * bigB
    rw [Nat.one_mul]
    unfold bigB
    exact Nat.le_of_lt fn
  · show _ ≤ 1 * 2 ^ 40
    have := fw.1
    show (ws.getD i 0).natAbs ≤ _
    omega
theorem mrg_tot : ∀ (r : List Bk) (c : Bk), tot (mrg r c) = tot r + c.m
  | [], c => by
    unfold mrg tot
    simp
  | b :: r, c => by
    unfold mrg
    split
    · rw [mrg_tot r]
      unfold tot Bk.add
      simp
      omega
    · unfold tot
      simp
      omega
theorem mrg_bd : ∀ (r : List Bk) (c : Bk), (∀ b ∈ r, Bd b) → Bd c → ∀ b ∈ mrg r c, Bd b
  | [], c, _, h, b, m => by
    unfold mrg at m
    rw [List.mem_singleton.mp m]
    exact h
  | b :: r, c, hr, h, x, m => by
    unfold mrg at m
    split at m
    · exact mrg_bd r (c.add b) (fun y hy => hr y (List.mem_cons_of_mem _ hy)) (h.add (hr b List.mem_cons_self)) x m
    · rcases List.mem_cons.mp m with m | m
      · rw [m]
        exact h
      · exact hr x m
theorem stk_tot (ns ws : List Int) : ∀ i, tot (stk ns ws i) = i
  | 0 => rfl
  | i + 1 => by
    show tot (mrg _ _) = _
    rw [mrg_tot, stk_tot ns ws i]
    rfl
theorem stk_bd {ns ws : List Int} (hn : ∀ n ∈ ns, Fit 1048600 n) (hw : Wts ws) (he : ws.length = ns.length) : ∀ i, i ≤ ns.length → ∀ b ∈ stk ns ws i, Bd b
  | 0, _, b, m => by cases m
  | i + 1, hi, b, m => mrg_bd _ _ (stk_bd hn hw he i (by omega)) (blk1_bd hn hw he (by omega)) b m
theorem tot_mem {r : List Bk} {b : Bk} (h : b ∈ r) : b.m ≤ tot r := by
  unfold tot
  induction r with
  | nil => cases h
  | cons x r ih =>
    rw [List.map_cons, List.sum_cons]
    rcases List.mem_cons.mp h with h | h
    · rw [h]
      omega
    · have := ih h
      omega
theorem rows_len (L : List Bk) : ((L.map Bk.qs).flatten).length = tot L := by
  unfold tot
  induction L with
  | nil => rfl
  | cons b L ih =>
    rw [List.map_cons, List.flatten_cons, List.length_append, ih, List.map_cons, List.sum_cons]
    unfold Bk.qs
    rw [List.length_replicate]
theorem tot_rev (L : List Bk) : tot L.reverse = tot L := by
  unfold tot
  rw [List.map_reverse, List.sum_reverse]
theorem tot_take (L : List Bk) (k : Nat) : tot (L.take k) ≤ tot L := by
  have e : tot L = tot (L.take k) + tot (L.drop k) := by
    unfold tot
    rw [← List.sum_append, ← List.map_append, List.take_append_drop]
  omega
abbrev sqF (x : D) : List (Str × D) := [("row", x)]
abbrev sqC (xs : List D) : List (Str × Ch) := [("row", .ow xs)]
def R_Squared___init__ (ds : List D) (fs : List (Str × Ch)) : Prop := ∃ xs, ds = [.lst xs] ∧ fs = sqC xs
theorem ok_Squared___init__ (T : Tx K mg base) : FnOk P w K mg base CX0 1 T.a_Squared___init__ T.d_Squared___init__ ["self", "row"] (spI K T.C_Squared 1 R_Squared___init__) := by
  refine pure_okI T.F_Squared___init__ sc_Squared___init__ rfl (by decide) (fun cdv A outer s H E hr => ?_)
  have nd := sc_Squared___init__.nd
  have hu := hr.units
  refine ⟨_, (pss_one (ps_fldK K (pv 0) (pe_callTy (listK K) (by rfl) T.m_list bt_list (pa_cons (pv 1) pa_nil)) rfl)), fun p ds fs h => ?_⟩
  obtain ⟨xs, rfl, rfl⟩ := h
  change DS _ _ (B.oo _ _ [] :: [B.im _]) _
  apply ds_fldI (c := .ow xs) 0
  · rfl
  · exact T.c_Squared
  · exact T.n_Squared_row
  · walk_at "lc"
  · exact Nat.le_of_ble_eq_true rfl
  · walk_at "pc"
  · exact dxo (dx_list (da_cons (de_var rfl) da_nil))
  rfl
theorem c_Squared___init__ {xs : List D} : R_Squared___init__ [.lst xs] (sqC xs) := ⟨_, rfl, rfl⟩
def R_squared (C : Addr) (ds : List D) (b : B) : Prop := ∃ ns ws : List Int, ds = [.lst (dI ns), .lst (dI ws)] ∧ ns.length ≤ 63 ∧ ws.length = ns.length ∧ Wts ws ∧ (∀ n ∈ ns, Fit 1048600 n) ∧ b = .oo none C (sqC ((rowOf ns ws).map qd))
theorem last_d (r : List Bk) (b : Bk) : atI (((b :: r).reverse).map Bk.d) (-1) = some b.d :=
  at_neg (n := r.length) (by rw [List.length_map, List.length_reverse, List.length_cons]) (by
    rw [List.reverse_cons, List.map_append, List.getElem?_append_right (by rw [List.length_map, List.length_reverse]; exact Nat.le_refl _), List.length_map, List.length_reverse, Nat.sub_self]
    rfl)
theorem rev_d (r : List Bk) (b : Bk) : ((b :: r).reverse).map Bk.d = r.reverse.map Bk.d ++ [b.d] := by
  rw [List.reverse_cons, List.map_append]
  rfl
theorem r2_neNil {xs : List Bk} : ∀ K : PySem.W.Frag, R2D K (rNeD K) (.lst (xs.map Bk.d)) (.lst []) (.bl (!xs.isEmpty)) := fun K => by
  have hd : deep 2 (.lst (xs.map Bk.d)) = true := deep_map 1 xs fun b => rfl
  have q := r2_ne (K := K) 2 2 hd (show deep 2 (.lst []) = true from rfl) (by decide) (by decide)
  cases xs with
  | nil => exact q
  | cons b xs => exact q
theorem ok_squared (T : Tx K mg base) : FnOk P w K mg base CX0 4 T.a_squared T.d_squared ["numbers", "weights"] (spO K 2 (R_squared T.C_Squared)) := by
  refine pure_okO T.F_squared sc_squared rfl (fun cdv A outer s H E hr => ?_)
  have nd := sc_squared.nd
  have hu := hr.units
  refine ⟨_, (pss_cons (ps_expr (pe_call (ok_check_numbers T) (hr.mono (by decide)) (by rfl) T.g_check_numbers T.F_check_numbers.kp T.b_check_numbers .nil pass0 (pa_cons (pv 0) pa_nil)))
      (pss_cons (ps_expr (pe_call (ok_check_weights T) (hr.mono (by decide)) (by rfl) T.g_check_weights T.F_check_weights.kp T.b_check_weights .nil pass0 (pa_cons (pv 0) (pa_cons (pv 1) pa_nil))))
      (pss_cons (ps_set (i := 2) nd rfl (by first | exact Or.inl rfl | exact Or.inr rfl) (pe_lst pa_nil))
      (pss_cons (ps_for PassesOwn.never rfl (pi_range1 (by rfl) T.m_range (pa_cons (pe_callB (lenK K) (by rfl) T.m_len bt_len (pa_cons (pv 0) pa_nil)) pa_nil)) (pg_name (i := 3) nd rfl (by first | exact Or.inl rfl | exact Or.inr rfl)) (pss_cons (ps_par3 (i := 4) (j := 5) (l := 6) rfl nd rfl rfl rfl (by decide) (by decide) (by decide) rfl rfl rfl (pa_cons pe_int (pa_cons (pe_op (mulK K) (pe_ix (ixK K) (pv 1) (pv 3) (fun _ _ => rfl)) (pe_ix (ixK K) (pv 0) (pv 3) (fun _ _ => rfl))) (pa_cons (pe_ix (ixK K) (pv 1) (pv 3) (fun _ _ => rfl)) pa_nil))) (by rfl))
      (pss_cons (ps_while PassesOwn.never (PW.pt (pw_and (pt_cmpR (neK K hu) (pv 2) (pe_lst pa_nil) (nomark _)) (pw_and1 (pt_cmpR op_gt (pe_op (mulK K) (pe_ix (ixK K) (pe_ix (ixK K) (pv 2) (pe_un un_neg pe_int) (fun _ _ => rfl)) pe_int (fun _ _ => rfl)) (pv 6)) (pe_op (mulK K) (pv 5) (pe_ix (ixK K) (pe_ix (ixK K) (pv 2) (pe_un un_neg pe_int) (fun _ _ => rfl)) pe_int (fun _ _ => rfl))) (nomark _))))) (pss_cons (ps_asg (pe_bm0 PySem.F.plainAttrs_list PySem.F.slot_list_pop PySem.F.type_list_pop mt_pop (pv 2)) (pg_tupK (n := 3) K rfl (pgs_cons (pg_name (i := 7) nd rfl (by first | exact Or.inl rfl | exact Or.inr rfl)) (pgs_cons (pg_name (i := 8) nd rfl (by first | exact Or.inl rfl | exact Or.inr rfl)) (pgs_cons (pg_name (i := 9) nd rfl (by first | exact Or.inl rfl | exact Or.inr rfl)) pgs_nil)))))
      (pss_one (ps_par3 (i := 4) (j := 5) (l := 6) rfl nd rfl rfl rfl (by decide) (by decide) (by decide) rfl rfl rfl (pa_cons (pe_op (addK K) (pv 4) (pv 7)) (pa_cons (pe_op (addK K) (pv 5) (pv 8)) (pa_cons (pe_op (addK K) (pv 6) (pv 9)) pa_nil))) (by rfl)))))
      (pss_one (ps_expr (pe_bm PySem.F.plainAttrs_list PySem.F.slot_list_append PySem.F.type_list_append mt_append (pv 2) (pa_cons (pe_tup (pa_cons (pv 4) (pa_cons (pv 5) (pa_cons (pv 6) pa_nil)))) pa_nil)))))))
      (pss_cons (ps_set (i := 10) nd rfl (by first | exact Or.inl rfl | exact Or.inr rfl) (pe_lst pa_nil))
      (pss_cons (ps_for PassesOwn.never rfl (pi_listK K (pv 2)) (pg_tupK (n := 3) K rfl (pgs_cons (pg_name (i := 4) nd rfl (by first | exact Or.inl rfl | exact Or.inr rfl)) (pgs_cons (pg_name (i := 5) nd rfl (by first | exact Or.inl rfl | exact Or.inr rfl)) (pgs_cons (pg_name (i := 6) nd rfl (by first | exact Or.inl rfl | exact Or.inr rfl)) pgs_nil)))) (pss_one (ps_expr (pe_bm PySem.F.plainAttrs_list PySem.F.slot_list_extend PySem.F.type_list_extend (extK K) (pv 10) (pa_cons (pe_op (mulK K) (pe_lst (pa_cons (pe_call (ok_lowest T) (hr.mono (by decide)) (by rfl) T.g_lowest T.F_lowest.kp T.b_lowest .nil pass0 (pa_cons (pv 5) (pa_cons (pv 6) pa_nil))) pa_nil)) (pv 4)) pa_nil)))))
      (pss_one (ps_ret (pe_make T.k_Squared (ok_Squared___init__ T) (hr.mono (by decide)) (by rfl) T.g_Squared T.b_Squared___init__ .nil pass0 (pa_cons (pv 10) pa_nil)))))))))), fun ds d h => ?_⟩
  obtain ⟨ns, ws, rfl, hl, he, hw, hn, rfl⟩ := h
  change DS _ _ [B.im _, B.im _, B.no, B.no, B.no, B.no, B.no, B.no, B.no, B.no, B.no] _
  walk_at "drop"
  · omega
  walk_at "drop"
  · omega
  · exact he
  · exact hw
  refine ds_seq (ds_own 2 (dao da_nil) (by decide) ?_)
  apply ds_seq
  apply ds_for (I := fun i Γ' => ∃ b3 b4 b5 b6 b7 b8 b9, Γ' = [.im (.lst (dI ns)), .im (.lst (dI ws)), .ow ((stk ns ws i).reverse.map Bk.d), b3, b4, b5, b6, b7, b8, b9, .no])
  · exact di_rng1 (da_cons (de_cb (da_cons (de_var rfl) da_nil) rc_lenL) da_nil) (by rw [List.length_map]; omega)
  · exact ⟨_, _, _, _, _, _, _, rfl⟩
  · rintro i d Γ' hd ⟨b3, b4, b5, b6, b7, b8, b9, rfl⟩
    obtain ⟨hi, rfl⟩ := map_get 0 hd
    rw [List.length_range, List.length_map] at hi
    have ei : (List.range (dI ns).length).getD i 0 = i := by
      rw [List.getD_eq_getElem?_getD, List.getElem?_range (by rw [List.length_map]; exact hi)]
      rfl
    rw [ei]
    refine ⟨_, dg_name _ trivial, ?_⟩
    apply ds_seq
    apply ds_par3 4 5 6 (a := .int ((blk1 ns ws i).m : Int)) (a2 := .int (blk1 ns ws i).t) (d := .int (blk1 ns ws i).w)
    · apply dao
      show DAr _ _ _ [.int 1, .int (ws.getD i 0 * ns.getD i 0), .int (ws.getD i 0)]
      walk_at "de"
      all_goals first | omega | exact hw.cmul (by omega) _
    apply ds_cutP (fun Γ' => ∃ b7 b8 b9, ∃ (r : List Bk) (c : Bk), Γ' = [.im (.lst (dI ns)), .im (.lst (dI ws)), .ow (r.reverse.map Bk.d), .im (.int (i : Int)), .im (.int (c.m : Int)), .im (.int c.t), .im (.int c.w), b7, b8, b9, .no] ∧ c :: r = stk ns ws (i + 1))
    · apply ds_while (fun m Γ' => ∃ b7 b8 b9, ∃ (r : List Bk) (c : Bk), Γ' = [.im (.lst (dI ns)), .im (.lst (dI ws)), .ow (r.reverse.map Bk.d), .im (.int (i : Int)), .im (.int (c.m : Int)), .im (.int c.t), .im (.int c.w), b7, b8, b9, .no] ∧ mrg r c = stk ns ws (i + 1) ∧ m = r.length ∧ (∀ b ∈ r, Bd b) ∧ Bd c ∧ tot r + c.m ≤ 63) (stk ns ws i).length
      · exact ⟨_, _, _, stk ns ws i, blk1 ns ws i, rfl, rfl, rfl, stk_bd hn hw he i (by omega), blk1_bd hn hw he hi, by rw [stk_tot]; show i + 1 ≤ 63; omega⟩
      · rintro m Γ' ⟨b7, b8, b9, r, c, rfl, h1, rfl, hr, hc, ht⟩
        cases r with
        | nil =>
          refine ⟨false, dto_fz ?_, (fun hb => by cases hb), fun _ => ⟨b7, b8, b9, [], c, rfl, h1⟩⟩
          walk_at "fz"
          exact dt_and (x := false) (y := false) (dt_test (de_op (de_var rfl) (de_lst da_nil (by decide)) (r2_neNil (xs := []) K))) fun z => by cases z
        | cons b r =>
          have hb := hr b List.mem_cons_self
          have htb : tot (b :: r) = b.m + tot r := by
            unfold tot
            rw [List.map_cons, List.sum_cons]
          have hbm := hb.m
          have fb := hb.fit (by omega)
          have fc := hc.fit (by omega)
          refine ⟨decide (c.t * b.w < b.t * c.w), dto_fz ?_, fun hx => ?_, fun hx => ?_⟩
          · walk_at "fz"
            refine' dt_is _ _
            rotate_left
            · refine dt_and (dt_test (de_op (de_var rfl) (de_lst da_nil (by decide)) (r2_neNil (xs := (b :: r).reverse) K))) fun _ => dt_test (de_op (de_op (de_op (de_op (de_var rfl) (de_un de_int r1_neg) (r2_ixL (last_d r b))) de_int (r2_ixT rfl)) (de_var rfl) (r2_mul ?_)) (de_op (de_var rfl) (de_op (de_op (de_var rfl) (de_un de_int r1_neg) (r2_ixL (last_d r b))) de_int (r2_ixT rfl)) (r2_mul ?_)) r2_gt)
              · exact fb.1.mulok fc.2 (by decide)
              · exact fc.1.mulok fb.2 (by decide)
            · rw [List.isEmpty_reverse]
              rfl
          · have hx' := of_decide_eq_true hx
            rw [rev_d]
            apply ds_seq
            apply ds_pop 2 rfl
            · unfold Bk.d
              walk_at "dg"
            apply ds_par3 4 5 6 (a := .int ((c.add b).m : Int)) (a2 := .int (c.add b).t) (d := .int (c.add b).w)
            · apply dao
              show DAr _ _ _ [.int ((c.m : Int) + (b.m : Int)), .int (c.t + b.t), .int (c.w + b.w)]
              walk_at "de"
            · refine ⟨r.length, by rw [List.length_cons]; omega, _, _, _, r, c.add b, rfl, ?_, rfl, fun y hy => hr y (List.mem_cons_of_mem _ hy), hc.add hb, ?_⟩
              · rw [← h1]
                show _ = (if c.t * b.w < b.t * c.w then mrg r (c.add b) else c :: b :: r)
                rw [if_pos hx']
              · show tot r + (c.m + b.m) ≤ 63
                omega
          · refine ⟨_, _, _, b :: r, c, rfl, ?_⟩
            rw [← h1]
            show _ = (if c.t * b.w < b.t * c.w then mrg r (c.add b) else c :: b :: r)
            rw [if_neg (of_decide_eq_false hx)]
    · rintro Γ' ⟨b7, b8, b9, r, c, rfl, h1⟩
      have ht := stk_tot ns ws (i + 1)
      have hlen : (stk ns ws (i + 1)).length ≤ 64 := by
        have hb := stk_bd hn hw he (i + 1) (by omega)
        have : ∀ L : List Bk, (∀ b ∈ L, Bd b) → L.length ≤ tot L := fun L => by
          induction L with
          | nil => exact fun _ => Nat.le_refl _
          | cons x L ih =>
            intro h
            have h1 := ih fun b hb => h b (List.mem_cons_of_mem _ hb)
            have h2 := (h x List.mem_cons_self).m
            unfold tot at *
            rw [List.map_cons, List.sum_cons, List.length_cons]
            omega
        have := this _ hb
        omega
      rw [← h1] at hlen
      apply ds_app (d := c.d) 2 rfl
      · apply deo
        unfold Bk.d
        walk_at "de"
      · rw [List.length_map, List.length_reverse]
        rw [List.length_cons] at hlen
        omega
      · have e : r.reverse.map Bk.d ++ [c.d] = (stk ns ws (i + 1)).reverse.map Bk.d := by rw [← rev_d, h1]
        rw [e]
        exact ⟨_, _, _, _, _, _, _, rfl⟩
  · rintro Γ' ⟨b3, b4, b5, b6, b7, b8, b9, rfl⟩
    rw [List.length_map, List.length_range, List.length_map]
    have htot := stk_tot ns ws ns.length
    have hbd := stk_bd hn hw he ns.length (Nat.le_refl _)
    refine ds_give 2 rfl ?_
    refine ds_seq (ds_own 10 (dao da_nil) (by decide) ?_)
    apply ds_seq
    apply ds_for (I := fun k Γ' => ∃ b3 b4 b5 b6 b7 b8 b9, Γ' = [.im (.lst (dI ns)), .im (.lst (dI ws)), .im (.lst ((stk ns ws ns.length).reverse.map Bk.d)), b3, b4, b5, b6, b7, b8, b9, .ow (((((stk ns ws ns.length).reverse.take k).map Bk.qs).flatten).map qd)])
    · exact di_list (de_var rfl)
    · exact ⟨_, _, _, _, _, _, _, rfl⟩
    · rintro k d Γ' hd ⟨b3, b4, b5, b6, b7, b8, b9, rfl⟩
      generalize hL : (stk ns ws ns.length).reverse = L at *
      have hLt : tot L = ns.length := by rw [← hL, tot_rev, htot]
      have hLb : ∀ b ∈ L, Bd b := fun b hb => hbd b (by rw [← hL] at hb; exact List.mem_reverse.mp hb)
      obtain ⟨hk, rfl⟩ := map_get (⟨0, 0, 0⟩ : Bk) hd
      have hm : L.getD k ⟨0, 0, 0⟩ ∈ L := getD_mem hk
      have hb := hLb _ hm
      have hbt := tot_mem hm
      have fb := hb.fit (by omega)
      have tk : L.take (k + 1) = L.take k ++ [L.getD k ⟨0, 0, 0⟩] := by
        rw [List.take_succ, List.getElem?_eq_getElem hk, List.getD_eq_getElem?_getD, List.getElem?_eq_getElem hk]
        rfl
      generalize L.getD k ⟨0, 0, 0⟩ = b at *
      refine ⟨_, show DG _ _ _ (.tup [.int (b.m : Int), .int b.t, .int b.w]) _ _ from dg_tup (dg_cons (dg_name _ trivial) (dg_cons (dg_name _ trivial) (dg_cons (dg_name _ trivial) dg_nil))) rfl, ?_⟩
      apply ds_ext (es := List.replicate b.m (qd b.q)) 10 rfl
      · apply deo
        refine de_op (de_lst (da_cons (de_call (da_cons (de_var rfl) (da_cons (de_var rfl) da_nil)) (c_lowest hb.w0 (fb.2.mono (by decide))) rfl) da_nil) (Nat.le_of_ble_eq_true rfl)) (de_var rfl) (r2_rep1 (by omega))
      · rw [List.length_map, rows_len, List.length_replicate]
        have := tot_take L k
        omega
      · have e : (((L.take k).map Bk.qs).flatten).map qd ++ List.replicate b.m (qd b.q) = (((L.take (k + 1)).map Bk.qs).flatten).map qd := by
          rw [tk, List.map_append, List.flatten_append, List.map_append, List.map_singleton, List.flatten_singleton]
          show _ = _ ++ List.map qd (List.replicate b.m b.q)
          rw [List.map_replicate]
        rw [e]
        exact ⟨_, _, _, _, _, _, _, rfl⟩
    · rintro Γ' ⟨b3, b4, b5, b6, b7, b8, b9, rfl⟩
      rw [List.length_map, List.take_length]
      refine ds_give 10 rfl ?_
      exact ds_retX (dxo (dx_make (da_cons (de_var rfl) da_nil) c_Squared___init__ rfl)) rfl
theorem c_squared {C : Addr} {ns ws : List Int} (h : ns.length ≤ 63) (he : ws.length = ns.length) (hw : Wts ws) (hn : ∀ n ∈ ns, Fit 1048600 n) : R_squared C [.lst (dI ns), .lst (dI ws)] (.oo none C (sqC ((rowOf ns ws).map qd))) := ⟨_, _, rfl, h, he, hw, hn, rfl⟩
end
end U

namespace U
open PySem PySem.Spec PyProof.Rows L2 DL
section
variable {P : Program} {w : World} {K : PySem.W.Frag} {mg : Str → Option Value} {base : Heap}
local macro_rules | `(tactic| walk_at "lk") => `(tactic| first | with_reducible exact look_hit | ((with_reducible refine look_miss (by decide +kernel) ?_); walk_at "lk") | with_reducible exact look_nil)
local macro_rules | `(tactic| walk_at "fz") => `(tactic| simp only [fz, fzB, chF, Ch.d, List.map, List.set])
local macro_rules | `(tactic| walk_at "ob") => `(tactic| first
  | ((with_reducible show look _ _ = _); walk_at "lk")
  | with_reducible apply de_callO | ((with_reducible show B.d _ = _); rfl) | ((with_reducible apply de_either1); (with_reducible apply de_meth); exact de_var rfl) | ((with_reducible apply de_either2); (with_reducible apply de_meth); exact de_var rfl)
  | with_reducible exact de_cls | with_reducible apply de_fld | with_reducible apply rc_isC | with_reducible apply de_meth
  | walk_at "cl")
local macro_rules | `(tactic| walk_at "r2") => `(tactic| (fail_if_success (with_reducible show R2D _ _ D.non _ _)); (fail_if_success (with_reducible show R2D _ _ _ D.non _)); first
  | exact r2_add | exact r2_sub | exact r2_lt | exact r2_le | exact r2_gt | exact r2_ge
  | with_reducible exact r2_p30 | with_reducible exact r2_p9
  | with_reducible apply r2_mod | with_reducible apply r2_fdiv | with_reducible apply r2_mul | with_reducible apply r2_pow | with_reducible apply r2_cat | with_reducible apply r2_rep1
  | exact r2_ixT rfl | exact r2_ixL rfl | with_reducible apply r2_ixN | with_reducible apply r2_ixI
  | exact r2_eqI | exact r2_neI | exact r2_eqB | exact r2_neB | exact r2_eqL | exact r2_neL | exact r2_isB | exact r2_notB)
local macro_rules | `(tactic| walk_at "rc") => `(tactic| (fail_if_success (with_reducible show RCD _ _ [D.non] _)); (fail_if_success (with_reducible show RCD _ _ [D.non, _] _)); (fail_if_success (with_reducible show RCD _ _ [_, D.non] _)); first
  | with_reducible exact rc_srt
  | exact rc_abs | exact rc_max2 | exact rc_min2 | exact rc_sum | exact rc_all | exact rc_any | exact rc_lenL | exact rc_lenT | exact rc_listL | exact rc_listT
  | with_reducible apply rc_int | with_reducible apply rc_bool | with_reducible apply rc_list | with_reducible apply rc_tuple)
local macro_rules | `(tactic| walk_at "d1") => `(tactic| first
  | with_reducible exact de_int | with_reducible exact de_bl | with_reducible exact de_non | exact de_var rfl
  | with_reducible exact da_nil | with_reducible apply da_cons
  | with_reducible apply de_op | with_reducible apply de_un | with_reducible apply de_cb | with_reducible apply de_call
  | with_reducible apply de_tup | with_reducible apply de_lst
  | with_reducible apply de_andV | with_reducible apply de_orV | with_reducible apply de_notV | ((with_reducible show _ = true → _); intro _) | ((with_reducible show _ = false → _); intro _)
  | with_reducible apply dt_and | with_reducible apply dt_or | with_reducible apply dt_not | with_reducible apply dt_test | with_reducible apply dt_B
  | with_reducible apply de_slice | with_reducible exact do_none | with_reducible apply do_some | with_reducible apply de_rev
  | with_reducible apply de_maxD | with_reducible apply de_chain3 | with_reducible apply de_chain
  | walk_at "r2" | walk_at "rc" | walk_at "ob"
  | ((with_reducible show R1D _ _ (D.int _) _); exact r1_neg)
  | with_reducible exact de_ty
  | with_reducible exact ne_int | with_reducible exact ne_lst | with_reducible exact ne_tup | with_reducible exact ne_bl
  | ((with_reducible show List.length _ = _); rfl) | ((with_reducible show List.length _ + 1 = _); rfl)
  | (with_reducible show List.length _ ≤ 1000); exact Nat.le_of_ble_eq_true rfl)
local macro_rules | `(tactic| walk_at "dg") => `(tactic| repeat' (first | exact dg_name _ trivial | exact dg_name _ (by decide) | with_reducible exact dg_nil | with_reducible apply dg_cons | with_reducible apply dg_tup | ((with_reducible show List.length _ = _); rfl)))
local macro_rules | `(tactic| walk_at "de") => `(tactic| repeat' walk_at "d1")
local macro_rules | `(tactic| walk_at "ret") => `(tactic| (apply ds_ret; apply deo; walk_at "de"))
local macro_rules | `(tactic| walk_at "asg") => `(tactic| (apply ds_seq; apply ds_asg; apply deo; walk_at "de"))
local macro_rules | `(tactic| walk_at "drop") => `(tactic| (apply ds_seq; apply ds_drop; apply deo; walk_at "de"))
local macro_rules | `(tactic| walk_at "par") => `(tactic| (apply ds_seq; apply ds_par; apply dao; walk_at "de"))
local macro_rules | `(tactic| walk_at "parG") => `(tactic| (apply ds_seq; apply ds_asgG; apply deo; walk_at "de"; walk_at "dg"))
local macro_rules | `(tactic| walk_at "lc") => `(tactic| first | with_reducible exact lookC_hit | with_reducible exact lookC_nil | ((with_reducible refine lookC_miss (by decide +kernel) ?_); walk_at "lc"))
local macro_rules | `(tactic| walk_at "pc") => `(tactic| first | with_reducible exact putC_hit | with_reducible exact putC_nil | ((with_reducible apply putC_miss); (decide +kernel); (walk_at "pc")))
local macro_rules | `(tactic| walk_at "cl") => `(tactic| first | with_reducible exact Tx.c_Band _ | with_reducible exact Tx.i_Band _ | with_reducible exact Tx.n_Band_lows _ | with_reducible exact Tx.n_Band_highs _ | with_reducible exact Tx.c_Barred _ | with_reducible exact Tx.i_Barred _ | with_reducible exact Tx.n_Barred_first _ | with_reducible exact Tx.n_Barred_second _ | with_reducible exact Tx.c_Evened _ | with_reducible exact Tx.i_Evened _ | with_reducible exact Tx.n_Evened_row _ | with_reducible exact Tx.n_Evened_first _ | with_reducible exact Tx.n_Evened_second _ | with_reducible exact Tx.c_Squared _ | with_reducible exact Tx.i_Squared _ | with_reducible exact Tx.n_Squared_row _ | with_reducible exact Tx.c_Summed _ | with_reducible exact Tx.i_Summed _ | with_reducible exact Tx.n_Summed_row _ | with_reducible exact Tx.n_Summed_pulls _ | with_reducible exact Tx.is_Band_Barred _ | with_reducible exact Tx.is_Band_Evened _ | with_reducible exact Tx.is_Band_Squared _ | with_reducible exact Tx.is_Band_Summed _ | with_reducible exact Tx.is_Barred_Band _ | with_reducible exact Tx.is_Barred_Evened _ | with_reducible exact Tx.is_Barred_Squared _ | with_reducible exact Tx.is_Barred_Summed _ | with_reducible exact Tx.is_Evened_Band _ | with_reducible exact Tx.is_Evened_Barred _ | with_reducible exact Tx.is_Evened_Squared _ | with_reducible exact Tx.is_Evened_Summed _ | with_reducible exact Tx.is_Squared_Band _ | with_reducible exact Tx.is_Squared_Barred _ | with_reducible exact Tx.is_Squared_Evened _ | with_reducible exact Tx.is_Squared_Summed _ | with_reducible exact Tx.is_Summed_Band _ | with_reducible exact Tx.is_Summed_Barred _ | with_reducible exact Tx.is_Summed_Evened _ | with_reducible exact Tx.is_Summed_Squared _| with_reducible exact (Tx.i_Band _).me | with_reducible exact (Tx.i_Barred _).me | with_reducible exact (Tx.i_Evened _).me | with_reducible exact (Tx.i_Squared _).me | with_reducible exact (Tx.i_Summed _).me)
local macro_rules | `(tactic| walk_at "d1") => `(tactic| first | exact c_common | with_reducible apply c_is_number)
local macro_rules | `(tactic| walk_at "d1") => `(tactic| with_reducible apply c_lowest)
local macro_rules | `(tactic| walk_at "d1") => `(tactic| with_reducible apply c_are_numbers)
local macro_rules | `(tactic| walk_at "d1") => `(tactic| with_reducible apply c_check_numbers)
local macro_rules | `(tactic| walk_at "d1") => `(tactic| with_reducible apply c_check_row)
local macro_rules | `(tactic| walk_at "d1") => `(tactic| with_reducible apply c_check_weights)
local macro_rules | `(tactic| walk_at "d1") => `(tactic| with_reducible apply c_greatest_of)
local macro_rules | `(tactic| walk_at "d1") => `(tactic| with_reducible apply c_sum_of)
local macro_rules | `(tactic| walk_at "d1") => `(tactic| first | with_reducible apply c_greatest | with_reducible apply c_summed_up | with_reducible exact c_is_fraction)
local macro_rules | `(tactic| walk_at "d1") => `(tactic| first | with_reducible exact c__law_whole2 | with_reducible apply c__law_whole)
local macro_rules | `(tactic| walk_at "d1") => `(tactic| with_reducible first | exact div21 | exact div3 | exact div2 | exact div5 | exact div7 | exact div30 | exact div230 | exact pos21 | exact pos2 | exact pos3 | exact pos5 | exact pos7 | exact pos9 | exact pos12 | exact posE30 | exact posE9 | exact mul2 | exact mul2l | exact mul3l)
local macro_rules | `(tactic| walk_at "d1") => `(tactic| first | with_reducible apply c__law_numbers | with_reducible apply c__law_weights)
local macro_rules | `(tactic| walk_at "d1") => `(tactic| with_reducible apply c_rises)
local macro_rules | `(tactic| walk_at "d1") => `(tactic| with_reducible apply c_highest_so_far)
local macro_rules | `(tactic| walk_at "d1") => `(tactic| with_reducible apply c_worst_places)
local macro_rules | `(tactic| walk_at "d1") => `(tactic| with_reducible apply c_Evened_shows)
local macro_rules | `(tactic| walk_at "d1") => `(tactic| with_reducible apply c__law_rises)
local macro_rules | `(tactic| walk_at "d1") => `(tactic| first | with_reducible apply c__law_even | with_reducible apply c__law_whole | with_reducible exact c__law_whole2)
local macro_rules | `(tactic| walk_at "d1") => `(tactic| first | with_reducible apply c_Band_shows | with_reducible exact c_Barred_shows)
/-! ## what a row of fractions shows -/
def ltQ (p q : Rat) : Bool := decide (p.num * (q.den : Int) < q.num * (p.den : Int))
structure QB (q : Rat) : Prop where
  f : QFit 1048720 60 q
theorem QB.zero : QB 0 := ⟨QFit.zero.mono (by decide) (by decide)⟩
def R_less (ds : List D) (d : D) : Prop := ∃ p q : Rat, ds = [qd p, qd q] ∧ QB p ∧ QB q ∧ d = .bl (ltQ p q)
theorem ok_less (T : Tx K mg base) : FnOk P w K mg base CX0 1 T.a_less T.d_less ["one", "other"] (spR K 2 R_less) := by
  refine pure_ok T.F_less sc_less rfl (fun cdv A outer s H E hr => ?_)
  have nd := sc_less.nd
  have hu := hr.units
  refine ⟨_, (pss_one (ps_ret (pe_cmpR op_lt (pe_op (mulK K) (pe_ix (ixK K) (pv 0) pe_int (fun _ _ => rfl)) (pe_ix (ixK K) (pv 1) pe_int (fun _ _ => rfl))) (pe_op (mulK K) (pe_ix (ixK K) (pv 1) pe_int (fun _ _ => rfl)) (pe_ix (ixK K) (pv 0) pe_int (fun _ _ => rfl))) (nomark _)))), fun ds d h => ?_⟩
  obtain ⟨p, q, rfl, hp, hq, rfl⟩ := h
  change DS _ _ [B.im _, B.im _] _
  unfold qd
  walk_at "ret"
  · exact hp.f.1.mulok hq.f.2 (by decide)
  · exact hq.f.1.mulok hp.f.2 (by decide)
  · rfl
theorem c_less {p q : Rat} (hp : QB p) (hq : QB q) : R_less [qd p, qd q] (.bl (ltQ p q)) := ⟨_, _, rfl, hp, hq, rfl⟩
def lackQ (n : Int) (q : Rat) (w : Int) : Rat := (w : Rat) * ((n : Rat) - q)
theorem lack_eq (n : Int) (q : Rat) (w : Int) : frac (w * (n * (q.den : Int) - q.num)) (q.den : Int) = lackQ n q w := by
  rw [frac_eq (den_pos q)]
  have e : q = (q.num : Rat) / ((q.den : Int) : Rat) := by
    conv => lhs; rw [← frac_self q, frac_eq (den_pos q)]
  have hd : ((q.den : Int) : Rat) ≠ 0 := by
    have := den_pos q
    exact fun z => by
      have := Rat.intCast_inj.mp (show ((q.den : Int) : Rat) = ((0 : Int) : Rat) from z)
      omega
  unfold lackQ
  generalize (q.den : Int) = b at *
  generalize q.num = a at *
  rw [e, Rat.intCast_mul, Rat.intCast_sub, Rat.intCast_mul]
  grind
def R_lack (ds : List D) (d : D) : Prop := ∃ (n w : Int) (q : Rat), ds = [.int n, qd q, .int w] ∧ Fit 1048600 n ∧ QB q ∧ Fit 40 w ∧ d = qd (lackQ n q w)
theorem lack_fit {n w : Int} {q : Rat} (hn : Fit 1048600 n) (hq : QB q) (hw : Fit 40 w) : Fit 1048721 (n * (q.den : Int) - q.num) ∧ Fit 1048761 (w * (n * (q.den : Int) - q.num)) := by
  have h := ((hn.mul hq.f.2).mono (show 1048600 + 60 ≤ 1048720 by decide)).sub hq.f.1
  exact ⟨h, (hw.mul h).mono (by decide)⟩
theorem ok_lack (T : Tx K mg base) : FnOk P w K mg base CX0 3 T.a_lack T.d_lack ["number", "fraction", "weight"] (spR K 3 R_lack) := by
  refine pure_ok T.F_lack sc_lack rfl (fun cdv A outer s H E hr => ?_)
  have nd := sc_lack.nd
  have hu := hr.units
  refine ⟨_, (pss_one (ps_ret (pe_call (ok_lowest T) (hr.mono (by decide)) (by rfl) T.g_lowest T.F_lowest.kp T.b_lowest .nil pass0 (pa_cons (pe_op (mulK K) (pv 2) (pe_op op_sub (pe_op (mulK K) (pv 0) (pe_ix (ixK K) (pv 1) pe_int (fun _ _ => rfl))) (pe_ix (ixK K) (pv 1) pe_int (fun _ _ => rfl)))) (pa_cons (pe_ix (ixK K) (pv 1) pe_int (fun _ _ => rfl)) pa_nil))))), fun ds d h => ?_⟩
  obtain ⟨n, w, q, rfl, hn, hq, hw, rfl⟩ := h
  change DS _ _ [B.im _, B.im _, B.im _] _
  have hf := lack_fit hn hq hw
  unfold qd
  walk_at "ret"
  · exact hn.mulok hq.f.2 (by decide)
  · exact hw.mulok hf.1 (by decide)
  · exact den_pos q
  · exact hq.f.2.mono (by decide)
  · show qd _ = qd _
    rw [lack_eq]
theorem c_lack {n w : Int} {q : Rat} (hn : Fit 1048600 n) (hq : QB q) (hw : Fit 40 w) : R_lack [.int n, qd q, .int w] (qd (lackQ n q w)) := ⟨_, _, _, rfl, hn, hq, hw, rfl⟩
theorem lackQ_fit {n w : Int} {q : Rat} (hn : Fit 1048600 n) (hq : QB q) (hw : Fit 40 w) : QFit 1048761 60 (lackQ n q w) := by
  rw [← lack_eq]
  exact QFit.frac (den_pos q) (lack_fit hn hq hw).2 hq.f.2
/-- the lacks so far -/
def lacks (ns : List Int) (qs : List Rat) (ws : List Int) (i : Nat) : Rat := sumTo (fun j => lackQ (ns.getD j 0) (qs.getD j 0) (ws.getD j 0)) i
def stepUp (qs : List Rat) (i : Nat) : Bool := decide ((0 : Int) < i) && ltQ (qs.getD (i - 1) 0) (qs.getD i 0)
def stepDown (qs : List Rat) (i : Nat) : Bool := decide ((0 : Int) < i) && ltQ (qs.getD i 0) (qs.getD (i - 1) 0)
def sqAt (ns : List Int) (qs : List Rat) (ws : List Int) (i : Nat) : Bool := !stepDown qs i && (!(stepUp qs i && !decide ((lacks ns qs ws i).num = 0)) && !decide ((lacks ns qs ws (i + 1)).num < 0))
def sqOk (ns : List Int) (qs : List Rat) (ws : List Int) : Bool := if qs.length = ns.length then (List.range ns.length).all (sqAt ns qs ws) && decide ((lacks ns qs ws ns.length).num = 0) else false
structure SqIn (ns : List Int) (qs : List Rat) (ws : List Int) : Prop where
  l : ns.length ≤ 63
  e : ws.length = ns.length
  w : Wts ws
  n : ∀ n ∈ ns, Fit 1048600 n
  q : ∀ q ∈ qs, QB q
theorem SqIn.wf {ns : List Int} {qs : List Rat} {ws : List Int} (h : SqIn ns qs ws) {i : Nat} (hi : i < ns.length) : Fit 40 (ws.getD i 0) := by
  have := h.w _ (getD_mem (z := 0) (show i < ws.length by have := h.e; omega))
  exact ⟨by omega⟩
theorem SqIn.nf {ns : List Int} {qs : List Rat} {ws : List Int} (h : SqIn ns qs ws) {i : Nat} (hi : i < ns.length) : Fit 1048600 (ns.getD i 0) := h.n _ (getD_mem (z := 0) hi)
theorem SqIn.lf {ns : List Int} {qs : List Rat} {ws : List Int} (h : SqIn ns qs ws) (hl : qs.length = ns.length) {i : Nat} (hi : i ≤ ns.length) : QFit (1048761 + i * (60 + 2)) (60 * i + 1) (lacks ns qs ws i) :=
  sumTo_fit i fun j hj => lackQ_fit (h.nf (by omega)) (h.q _ (getD_mem (by omega))) (h.wf (by omega))
theorem lacks_succ (ns : List Int) (qs : List Rat) (ws : List Int) (i : Nat) : lacks ns qs ws (i + 1) = lacks ns qs ws i + lackQ (ns.getD i 0) (qs.getD i 0) (ws.getD i 0) := rfl
theorem at_Q {qs : List Rat} {i : Nat} {z : Int} (e : z = (i : Int)) (h : i < qs.length) : atI (qs.map qd) z = some (qd (qs.getD i 0)) := by
  subst e
  exact at_nat (by
    rw [List.getElem?_map, List.getD_eq_getElem?_getD, List.getElem?_eq_getElem h]
    rfl)
theorem sq_bad {ns : List Int} {qs : List Rat} {ws : List Int} {i : Nat} (hi : i < ns.length) (z : sqAt ns qs ws i = false) : D.bl false = D.bl ((List.range ns.length).all (sqAt ns qs ws) && decide ((lacks ns qs ws ns.length).num = 0)) := by
  congr 1
  symm
  apply Bool.eq_false_iff.mpr
  intro w
  rw [Bool.and_eq_true] at w
  have := List.all_eq_true.mp w.1 i (List.mem_range.mpr hi)
  rw [z] at this
  cases this
theorem sq_end {ns : List Int} {qs : List Rat} {ws : List Int} (hI : ∀ j, j < ns.length → sqAt ns qs ws j = true) : ((List.range ns.length).all (sqAt ns qs ws) && decide ((lacks ns qs ws ns.length).num = 0)) = decide ((lacks ns qs ws ns.length).num = 0) := by
  rw [List.all_eq_true.mpr fun x hx => hI x (List.mem_range.mp hx), Bool.true_and]
def R_Squared_shows (C : Addr) (ds : List D) (d : D) : Prop := ∃ (ns : List Int) (qs : List Rat) (ws : List Int), ds = [.ins C (sqF (.lst (qs.map qd))), .lst (dI ns), .lst (dI ws)] ∧ SqIn ns qs ws ∧ d = .bl (sqOk ns qs ws)
theorem ok_Squared_shows (T : Tx K mg base) : FnOk P w K mg base CX0 4 T.a_Squared_shows T.d_Squared_shows ["self", "numbers", "weights"] (spR K 3 (R_Squared_shows T.C_Squared)) := by
  refine pure_ok T.F_Squared_shows sc_Squared_shows rfl (fun cdv A outer s H E hr => ?_)
  have nd := sc_Squared_shows.nd
  have hu := hr.units
  refine ⟨_, (pss_cons (ps_if (pt_cmpR (neK K hu) (pe_callB (lenK K) (by rfl) T.m_len bt_len (pa_cons (fldK K (pv 0) rfl) pa_nil)) (pe_callB (lenK K) (by rfl) T.m_len bt_len (pa_cons (pv 1) pa_nil)) (nomark _)) (pss_one (ps_ret pe_bl)) pss_nil)
      (pss_cons (ps_set (i := 3) nd rfl (by first | exact Or.inl rfl | exact Or.inr rfl) (pe_tup (pa_cons pe_int (pa_cons pe_int pa_nil))))
      (pss_cons (ps_for PassesOwn.never rfl (pi_range1 (by rfl) T.m_range (pa_cons (pe_callB (lenK K) (by rfl) T.m_len bt_len (pa_cons (pv 1) pa_nil)) pa_nil)) (pg_name (i := 4) nd rfl (by first | exact Or.inl rfl | exact Or.inr rfl)) (pss_cons (ps_if (PW.pt (pw_and (pt_cmpR op_gt (pv 4) pe_int (nomark _)) (pw_and1 (pt_val (pe_call (ok_less T) (hr.mono (by decide)) (by rfl) T.g_less T.F_less.kp T.b_less .nil pass0 (pa_cons (pe_ix (ixK K) (fldK K (pv 0) rfl) (pv 4) (fun _ _ => rfl)) (pa_cons (pe_ix (ixK K) (fldK K (pv 0) rfl) (pe_op op_sub (pv 4) pe_int) (fun _ _ => rfl)) pa_nil))))))) (pss_one (ps_ret pe_bl)) pss_nil)
      (pss_cons (ps_if (PW.pt (pw_and (pt_cmpR op_gt (pv 4) pe_int (nomark _)) (pw_and (pt_val (pe_call (ok_less T) (hr.mono (by decide)) (by rfl) T.g_less T.F_less.kp T.b_less .nil pass0 (pa_cons (pe_ix (ixK K) (fldK K (pv 0) rfl) (pe_op op_sub (pv 4) pe_int) (fun _ _ => rfl)) (pa_cons (pe_ix (ixK K) (fldK K (pv 0) rfl) (pv 4) (fun _ _ => rfl)) pa_nil)))) (pw_and1 (pt_cmpR (neK K hu) (pe_ix (ixK K) (pv 3) pe_int (fun _ _ => rfl)) pe_int (nomark _)))))) (pss_one (ps_ret pe_bl)) pss_nil)
      (pss_cons (ps_set (i := 3) nd rfl (by first | exact Or.inl rfl | exact Or.inr rfl) (pe_call (ok_plus T) (hr.mono (by decide)) (by rfl) T.g_plus T.F_plus.kp T.b_plus .nil pass0 (pa_cons (pv 3) (pa_cons (pe_call (ok_lack T) (hr.mono (by decide)) (by rfl) T.g_lack T.F_lack.kp T.b_lack .nil pass0 (pa_cons (pe_ix (ixK K) (pv 1) (pv 4) (fun _ _ => rfl)) (pa_cons (pe_ix (ixK K) (fldK K (pv 0) rfl) (pv 4) (fun _ _ => rfl)) (pa_cons (pe_ix (ixK K) (pv 2) (pv 4) (fun _ _ => rfl)) pa_nil)))) pa_nil))))
      (pss_one (ps_if (pt_cmpR op_lt (pe_ix (ixK K) (pv 3) pe_int (fun _ _ => rfl)) pe_int (nomark _)) (pss_one (ps_ret pe_bl)) pss_nil))))))
      (pss_one (ps_ret (pe_cmpR (eqK K hu) (pe_ix (ixK K) (pv 3) pe_int (fun _ _ => rfl)) pe_int (nomark _))))))), fun ds d h => ?_⟩
  obtain ⟨ns, qs, ws, rfl, hS, rfl⟩ := h
  change DS _ _ [B.im _, B.im _, B.im _, B.no, B.no] _
  unfold sqF sqOk
  apply ds_seq
  apply ds_if
  · apply dto
    walk_at "de"
  · intro hb
    rw [if_neg (by simp at hb; omega)]
    walk_at "ret"
    rfl
  intro hb
  have hl : qs.length = ns.length := by simp at hb; omega
  have h63 := hS.l
  have hwe := hS.e
  rw [if_pos hl]
  apply ds_next
  apply ds_seq
  apply ds_asg (d := qd 0)
  · apply deo
    show DE _ _ _ (.tup [.int 0, .int 1])
    walk_at "de"
  apply ds_seq
  apply ds_for (I := fun i Γ' => (∃ b4, Γ' = [.im (.ins T.C_Squared [("row", .lst (qs.map qd))]), .im (.lst (dI ns)), .im (.lst (dI ws)), .im (qd (lacks ns qs ws i)), b4]) ∧ ∀ j, j < i → sqAt ns qs ws j = true)
  · exact di_rng1 (da_cons (de_cb (da_cons (de_var rfl) da_nil) rc_lenL) da_nil) (by rw [List.length_map]; omega)
  · exact ⟨⟨_, rfl⟩, fun j hj => by omega⟩
  · rintro i d Γ' hd ⟨⟨b4, rfl⟩, hI⟩
    obtain ⟨hi, rfl⟩ := map_get 0 hd
    rw [List.length_range, List.length_map] at hi
    have ei : (List.range (dI ns).length).getD i 0 = i := by
      rw [List.getD_eq_getElem?_getD, List.getElem?_range (by rw [List.length_map]; exact hi)]
      rfl
    rw [ei]
    have hq : ∀ j, j < ns.length → QB (qs.getD j 0) := fun j hj => hS.q _ (getD_mem (by omega))
    refine ⟨_, dg_name _ trivial, ?_⟩
    change DS _ _ [.im (.ins T.C_Squared [("row", .lst (qs.map qd))]), .im (.lst (dI ns)), .im (.lst (dI ws)), .im (qd (lacks ns qs ws i)), .im (.int (i : Int))] _
    have row : DE K (tFld K (tVar 0) (PySem.Str.ofString "row")) [.im (.ins T.C_Squared [("row", .lst (qs.map qd))]), .im (.lst (dI ns)), .im (.lst (dI ws)), .im (qd (lacks ns qs ws i)), .im (.int (i : Int))] (.lst (qs.map qd)) := de_fld (de_var rfl) T.c_Squared T.n_Squared_row look_hit
    have here := de_op (r := rIx K) row (de_var (i := 4) rfl) (r2_ixL (at_Q rfl (show i < qs.length by omega)))
    have prev : (0 : Int) < i → DE K _ _ _ := fun h0 => de_op (r := rIx K) row (de_op (de_var (i := 4) rfl) de_int r2_sub) (r2_ixL (at_Q (show (i : Int) - 1 = ((i - 1 : Nat) : Int) by omega) (show i - 1 < qs.length by omega)))
    apply ds_seq
    apply ds_if (b := stepDown qs i)
    · apply dto
      refine dt_and (dt_test (de_op (de_var rfl) de_int r2_gt)) fun h0 => ?_
      have h0 := of_decide_eq_true h0
      exact dt_test (de_call (da_cons here (da_cons (prev h0) da_nil)) (c_less (hq i hi) (hq (i - 1) (by omega))) rfl)
    · intro hb
      walk_at "ret"
      refine sq_bad hi ?_
      unfold sqAt
      rw [hb]
      rfl
    intro hb1
    apply ds_next
    apply ds_seq
    apply ds_if (b := stepUp qs i && !decide ((lacks ns qs ws i).num = 0))
    · apply dto
      have e : (stepUp qs i && !decide ((lacks ns qs ws i).num = 0)) = (decide ((0 : Int) < i) && (ltQ (qs.getD (i - 1) 0) (qs.getD i 0) && !decide ((lacks ns qs ws i).num = 0))) := by
        unfold stepUp
        rw [Bool.and_assoc]
      rw [e]
      refine dt_and (dt_test (de_op (de_var rfl) de_int r2_gt)) fun h0 => ?_
      have h0 := of_decide_eq_true h0
      refine dt_and (dt_test (de_call (da_cons (prev h0) (da_cons here da_nil)) (c_less (hq (i - 1) (by omega)) (hq i hi)) rfl)) fun _ => ?_
      exact dt_test (de_op (de_op (de_var rfl) de_int (r2_ixT rfl)) de_int r2_neI)
    · intro hb
      walk_at "ret"
      refine sq_bad hi ?_
      unfold sqAt
      rw [hb]
      simp
    intro hb2
    apply ds_next
    apply ds_seq
    apply ds_asg (d := qd (lacks ns qs ws (i + 1)))
    · apply deo
      refine de_call (da_cons (de_var rfl) (da_cons (de_call (da_cons (de_op (de_var rfl) (de_var rfl) (r2_ixN hi)) (da_cons here (da_cons (de_op (de_var rfl) (de_var rfl) (r2_ixN (by omega))) da_nil))) (c_lack (hS.nf hi) (hq i hi) (hS.wf hi)) rfl) da_nil)) ?_ rfl
      rw [lacks_succ]
      exact c_plus _ _ _ _ (hS.lf hl (by omega)) (lackQ_fit (hS.nf hi) (hq i hi) (hS.wf hi)) (by omega) (by omega) (by omega)
    apply ds_if (b := decide ((lacks ns qs ws (i + 1)).num < 0))
    · apply dto
      exact dt_test (de_op (de_op (de_var rfl) de_int (r2_ixT rfl)) de_int r2_lt)
    · intro hb
      walk_at "ret"
      refine sq_bad hi ?_
      unfold sqAt
      rw [hb]
      simp
    intro hb3
    refine ds_next ⟨⟨_, rfl⟩, fun j hj => ?_⟩
    by_cases e : j = i
    · subst e
      unfold sqAt
      rw [hb1, hb2, hb3]
      rfl
    · exact hI j (by omega)
  · rintro Γ' ⟨⟨b4, rfl⟩, hI⟩
    rw [List.length_map, List.length_range, List.length_map] at hI ⊢
    rw [sq_end hI]
    refine ds_ret (d := .bl (decide ((lacks ns qs ws ns.length).num = 0))) (deo ?_) rfl
    exact de_op (de_op (de_var rfl) de_int (r2_ixT rfl)) de_int r2_eqI
theorem c_Squared_shows {C : Addr} {ns : List Int} {qs : List Rat} {ws : List Int} (h : SqIn ns qs ws) : R_Squared_shows C [.ins C (sqF (.lst (qs.map qd))), .lst (dI ns), .lst (dI ws)] (.bl (sqOk ns qs ws)) := ⟨_, _, _, rfl, h, rfl⟩
def R__law_squared (ds : List D) (d : D) : Prop := ∃ (ns : List Int) (qs : List Rat) (ws : List Int), ds = [.lst (dI ns), .lst (dI ws), .lst (qs.map qd)] ∧ SqIn ns qs ws ∧ d = .bl (sqOk ns qs ws)
theorem ok__law_squared (T : Tx K mg base) : FnOk P w K mg base CX0 4 T.a__law_squared T.d__law_squared ["_law_numbers_here", "_law_weights_here", "_law_row"] (spR K 3 R__law_squared) := by
  refine pure_ok T.F__law_squared sc__law_squared rfl (fun cdv A outer s H E hr => ?_)
  have nd := sc__law_squared.nd
  have hu := hr.units
  refine ⟨_, (pss_cons (ps_if (pt_cmpR (neK K hu) (pe_callB (lenK K) (by rfl) T.m_len bt_len (pa_cons (pv 2) pa_nil)) (pe_callB (lenK K) (by rfl) T.m_len bt_len (pa_cons (pv 0) pa_nil)) (nomark _)) (pss_one (ps_ret pe_bl)) pss_nil)
      (pss_cons (ps_set (i := 3) nd rfl (by first | exact Or.inl rfl | exact Or.inr rfl) (pe_tup (pa_cons pe_int (pa_cons pe_int pa_nil))))
      (pss_cons (ps_for PassesOwn.never rfl (pi_range1 (by rfl) T.m_range (pa_cons (pe_callB (lenK K) (by rfl) T.m_len bt_len (pa_cons (pv 0) pa_nil)) pa_nil)) (pg_name (i := 4) nd rfl (by first | exact Or.inl rfl | exact Or.inr rfl)) (pss_cons (ps_asg (pe_ix (ixK K) (pv 2) (pv 4) (fun _ _ => rfl)) (pg_tupK (n := 2) K rfl (pgs_cons (pg_name (i := 5) nd rfl (by first | exact Or.inl rfl | exact Or.inr rfl)) (pgs_cons (pg_name (i := 6) nd rfl (by first | exact Or.inl rfl | exact Or.inr rfl)) pgs_nil))))
      (pss_cons (ps_if (PW.pt (pw_and (pt_cmpR op_gt (pv 4) pe_int (nomark _)) (pw_and1 (pt_cmpR op_lt (pe_op (mulK K) (pv 5) (pe_ix (ixK K) (pe_ix (ixK K) (pv 2) (pe_op op_sub (pv 4) pe_int) (fun _ _ => rfl)) pe_int (fun _ _ => rfl))) (pe_op (mulK K) (pe_ix (ixK K) (pe_ix (ixK K) (pv 2) (pe_op op_sub (pv 4) pe_int) (fun _ _ => rfl)) pe_int (fun _ _ => rfl)) (pv 6)) (nomark _))))) (pss_one (ps_ret pe_bl)) pss_nil)
      (pss_cons (ps_if (PW.pt (pw_and (pt_cmpR op_gt (pv 4) pe_int (nomark _)) (pw_and (pt_cmpR op_gt (pe_op (mulK K) (pv 5) (pe_ix (ixK K) (pe_ix (ixK K) (pv 2) (pe_op op_sub (pv 4) pe_int) (fun _ _ => rfl)) pe_int (fun _ _ => rfl))) (pe_op (mulK K) (pe_ix (ixK K) (pe_ix (ixK K) (pv 2) (pe_op op_sub (pv 4) pe_int) (fun _ _ => rfl)) pe_int (fun _ _ => rfl)) (pv 6)) (nomark _)) (pw_and1 (pt_cmpR (neK K hu) (pe_ix (ixK K) (pv 3) pe_int (fun _ _ => rfl)) pe_int (nomark _)))))) (pss_one (ps_ret pe_bl)) pss_nil)
      (pss_cons (ps_set (i := 3) nd rfl (by first | exact Or.inl rfl | exact Or.inr rfl) (pe_call (ok__law_sum T) (hr.mono (by decide)) (by rfl) T.g__law_sum T.F__law_sum.kp T.b__law_sum .nil pass0 (pa_cons (pv 3) (pa_cons (pe_tup (pa_cons (pe_op (mulK K) (pe_ix (ixK K) (pv 1) (pv 4) (fun _ _ => rfl)) (pe_op op_sub (pe_op (mulK K) (pe_ix (ixK K) (pv 0) (pv 4) (fun _ _ => rfl)) (pv 6)) (pv 5))) (pa_cons (pv 6) pa_nil))) pa_nil))))
      (pss_one (ps_if (pt_cmpR op_lt (pe_ix (ixK K) (pv 3) pe_int (fun _ _ => rfl)) pe_int (nomark _)) (pss_one (ps_ret pe_bl)) pss_nil)))))))
      (pss_one (ps_ret (pe_cmpR (eqK K hu) (pe_ix (ixK K) (pv 3) pe_int (fun _ _ => rfl)) pe_int (nomark _))))))), fun ds d h => ?_⟩
  obtain ⟨ns, qs, ws, rfl, hS, rfl⟩ := h
  change DS _ _ [B.im _, B.im _, B.im _, B.no, B.no, B.no, B.no] _
  unfold sqOk
  apply ds_seq
  apply ds_if
  · apply dto
    walk_at "de"
  · intro hb
    rw [if_neg (by simp at hb; omega)]
    walk_at "ret"
    rfl
  intro hb
  have hl : qs.length = ns.length := by simp at hb; omega
  have h63 := hS.l
  have hwe := hS.e
  rw [if_pos hl]
  apply ds_next
  apply ds_seq
  apply ds_asg (d := qd 0)
  · apply deo
    show DE _ _ _ (.tup [.int 0, .int 1])
    walk_at "de"
  apply ds_seq
  apply ds_for (I := fun i Γ' => (∃ b4 b5 b6, Γ' = [.im (.lst (dI ns)), .im (.lst (dI ws)), .im (.lst (qs.map qd)), .im (qd (lacks ns qs ws i)), b4, b5, b6]) ∧ ∀ j, j < i → sqAt ns qs ws j = true)
  · exact di_rng1 (da_cons (de_cb (da_cons (de_var rfl) da_nil) rc_lenL) da_nil) (by rw [List.length_map]; omega)
  · exact ⟨⟨_, _, _, rfl⟩, fun j hj => by omega⟩
  · rintro i d Γ' hd ⟨⟨b4, b5, b6, rfl⟩, hI⟩
    obtain ⟨hi, rfl⟩ := map_get 0 hd
    rw [List.length_range, List.length_map] at hi
    have ei : (List.range (dI ns).length).getD i 0 = i := by
      rw [List.getD_eq_getElem?_getD, List.getElem?_range (by rw [List.length_map]; exact hi)]
      rfl
    rw [ei]
    have hq : ∀ j, j < ns.length → QB (qs.getD j 0) := fun j hj => hS.q _ (getD_mem (by omega))
    have hqi := hq i hi
    have hqp := hq (i - 1) (by omega)
    have hf := lack_fit (hS.nf hi) hqi (hS.wf hi)
    refine ⟨_, dg_name _ trivial, ?_⟩
    change DS _ _ [.im (.lst (dI ns)), .im (.lst (dI ws)), .im (.lst (qs.map qd)), .im (qd (lacks ns qs ws i)), .im (.int (i : Int)), b5, b6] _
    apply ds_seq
    refine ds_asgG (d := .tup [.int (qs.getD i 0).num, .int ((qs.getD i 0).den : Int)]) (deo (de_op (r := rIx K) (de_var rfl) (de_var rfl) (r2_ixL (at_Q rfl (by omega))))) (dg_tup (dg_cons (dg_name _ trivial) (dg_cons (dg_name _ trivial) dg_nil)) rfl) ?_
    change DS _ _ [.im (.lst (dI ns)), .im (.lst (dI ws)), .im (.lst (qs.map qd)), .im (qd (lacks ns qs ws i)), .im (.int (i : Int)), .im (.int (qs.getD i 0).num), .im (.int ((qs.getD i 0).den : Int))] _
    have prev : (0 : Int) < i → DE K (tOp (rIx K) (tVar 2) (tOp (rI0 fun i j => V.int (i - j)) (tVar 4) (tC (.int 1)))) [.im (.lst (dI ns)), .im (.lst (dI ws)), .im (.lst (qs.map qd)), .im (qd (lacks ns qs ws i)), .im (.int (i : Int)), .im (.int (qs.getD i 0).num), .im (.int ((qs.getD i 0).den : Int))] (.tup [.int (qs.getD (i - 1) 0).num, .int ((qs.getD (i - 1) 0).den : Int)]) := fun h0 =>
      de_op (de_var rfl) (de_op (de_var rfl) de_int r2_sub) (r2_ixL (at_Q (show (i : Int) - 1 = ((i - 1 : Nat) : Int) by omega) (show i - 1 < qs.length by omega)))
    have lhs := fun h0 => de_op (K := K) (de_var (i := 5) rfl) (de_op (r := rIx K) (prev h0) (de_int (i := 1)) (r2_ixT rfl)) (r2_mul (hqi.f.1.mulok hqp.f.2 (by decide)))
    have rhs := fun h0 => de_op (K := K) (de_op (r := rIx K) (prev h0) (de_int (i := 0)) (r2_ixT rfl)) (de_var (i := 6) rfl) (r2_mul (hqp.f.1.mulok hqi.f.2 (by decide)))
    apply ds_seq
    apply ds_if (b := stepDown qs i)
    · apply dto
      refine dt_and (dt_test (de_op (de_var rfl) de_int r2_gt)) fun h0 => ?_
      have h0 := of_decide_eq_true h0
      exact dt_test (de_op (lhs h0) (rhs h0) r2_lt)
    · intro hb
      walk_at "ret"
      refine sq_bad hi ?_
      unfold sqAt
      rw [hb]
      rfl
    intro hb1
    apply ds_next
    apply ds_seq
    apply ds_if (b := stepUp qs i && !decide ((lacks ns qs ws i).num = 0))
    · apply dto
      have e : (stepUp qs i && !decide ((lacks ns qs ws i).num = 0)) = (decide ((0 : Int) < i) && (ltQ (qs.getD (i - 1) 0) (qs.getD i 0) && !decide ((lacks ns qs ws i).num = 0))) := by
        unfold stepUp
        rw [Bool.and_assoc]
      rw [e]
      refine dt_and (dt_test (de_op (de_var rfl) de_int r2_gt)) fun h0 => ?_
      have h0 := of_decide_eq_true h0
      refine dt_and (dt_test (de_op (lhs h0) (rhs h0) r2_gt)) fun _ => ?_
      exact dt_test (de_op (de_op (de_var rfl) de_int (r2_ixT rfl)) de_int r2_neI)
    · intro hb
      walk_at "ret"
      refine sq_bad hi ?_
      unfold sqAt
      rw [hb]
      simp
    intro hb2
    apply ds_next
    apply ds_seq
    apply ds_asg (d := qd (lacks ns qs ws (i + 1)))
    · apply deo
      have wi := de_op (K := K) (r := rIx K) (de_var (i := 1) (Γ := [.im (.lst (dI ns)), .im (.lst (dI ws)), .im (.lst (qs.map qd)), .im (qd (lacks ns qs ws i)), .im (.int (i : Int)), .im (.int (qs.getD i 0).num), .im (.int ((qs.getD i 0).den : Int))]) rfl) (de_var (i := 4) rfl) (r2_ixN (show i < ws.length by omega))
      refine de_call (da_cons (de_var rfl) (da_cons (de_tup (da_cons (de_op wi (de_op (de_op (de_op (de_var rfl) (de_var rfl) (r2_ixN hi)) (de_var rfl) (r2_mul ((hS.nf hi).mulok hqi.f.2 (by decide)))) (de_var rfl) r2_sub) (r2_mul ((hS.wf hi).mulok hf.1 (by decide)))) (da_cons (de_var rfl) da_nil)) (Nat.le_of_ble_eq_true rfl)) da_nil)) ?_ rfl
      rw [lacks_succ]
      have q1 := hS.lf hl (show i ≤ ns.length by omega)
      exact ⟨_, _, _, _, _, _, _, _, rfl, den_pos _, den_pos _, q1.1, q1.2, hf.2, hqi.f.2, by omega, by omega, by omega, by rw [frac_self, lack_eq]⟩
    apply ds_if (b := decide ((lacks ns qs ws (i + 1)).num < 0))
    · apply dto
      exact dt_test (de_op (de_op (de_var rfl) de_int (r2_ixT rfl)) de_int r2_lt)
    · intro hb
      walk_at "ret"
      refine sq_bad hi ?_
      unfold sqAt
      rw [hb]
      simp
    intro hb3
    refine ds_next ⟨⟨_, _, _, rfl⟩, fun j hj => ?_⟩
    by_cases e : j = i
    · subst e
      unfold sqAt
      rw [hb1, hb2, hb3]
      rfl
    · exact hI j (by omega)
  · rintro Γ' ⟨⟨b4, b5, b6, rfl⟩, hI⟩
    rw [List.length_map, List.length_range, List.length_map] at hI ⊢
    rw [sq_end hI]
    refine ds_ret (d := .bl (decide ((lacks ns qs ws ns.length).num = 0))) (deo ?_) rfl
    exact de_op (de_op (de_var rfl) de_int (r2_ixT rfl)) de_int r2_eqI
theorem c__law_squared {ns : List Int} {qs : List Rat} {ws : List Int} (h : SqIn ns qs ws) : R__law_squared [.lst (dI ns), .lst (dI ws), .lst (qs.map qd)] (.bl (sqOk ns qs ws)) := ⟨_, _, _, rfl, h, rfl⟩
end
end U

namespace U
open PySem PySem.Spec PyProof.Rows L2 DL
section
variable {P : Program} {w : World} {K : PySem.W.Frag} {mg : Str → Option Value} {base : Heap}
local macro_rules | `(tactic| walk_at "lk") => `(tactic| first | with_reducible exact look_hit | ((with_reducible refine look_miss (by decide +kernel) ?_); walk_at "lk") | with_reducible exact look_nil)
local macro_rules | `(tactic| walk_at "fz") => `(tactic| simp only [fz, fzB, chF, Ch.d, List.map, List.set])
local macro_rules | `(tactic| walk_at "ob") => `(tactic| first
  | ((with_reducible show look _ _ = _); walk_at "lk")
  | with_reducible apply de_callO | ((with_reducible show B.d _ = _); rfl) | ((with_reducible apply de_either1); (with_reducible apply de_meth); exact de_var rfl) | ((with_reducible apply de_either2); (with_reducible apply de_meth); exact de_var rfl)
  | with_reducible exact de_cls | with_reducible apply de_fld | with_reducible apply rc_isC | with_reducible apply de_meth
  | walk_at "cl")
local macro_rules | `(tactic| walk_at "r2") => `(tactic| (fail_if_success (with_reducible show R2D _ _ D.non _ _)); (fail_if_success (with_reducible show R2D _ _ _ D.non _)); first
  | exact r2_add | exact r2_sub | exact r2_lt | exact r2_le | exact r2_gt | exact r2_ge
  | with_reducible exact r2_p30 | with_reducible exact r2_p9
  | with_reducible apply r2_mod | with_reducible apply r2_fdiv | with_reducible apply r2_mul | with_reducible apply r2_pow | with_reducible apply r2_cat | with_reducible apply r2_rep1
  | exact r2_ixT rfl | exact r2_ixL rfl | with_reducible apply r2_ixN | with_reducible apply r2_ixI
  | exact r2_eqI | exact r2_neI | exact r2_eqB | exact r2_neB | exact r2_eqL | exact r2_neL | exact r2_isB | exact r2_notB)
local macro_rules | `(tactic| walk_at "rc") => `(tactic| (fail_if_success (with_reducible show RCD _ _ [D.non] _)); (fail_if_success (with_reducible show RCD _ _ [D.non, _] _)); (fail_if_success (with_reducible show RCD _ _ [_, D.non] _)); first
  | with_reducible exact rc_srt
  | exact rc_abs | exact rc_max2 | exact rc_min2 | exact rc_sum | exact rc_all | exact rc_any | exact rc_lenL | exact rc_lenT | exact rc_listL | exact rc_listT
  | with_reducible apply rc_int | with_reducible apply rc_bool | with_reducible apply rc_list | with_reducible apply rc_tuple)
local macro_rules | `(tactic| walk_at "d1") => `(tactic| first
  | with_reducible exact de_int | with_reducible exact de_bl | with_reducible exact de_non | exact de_var rfl
  | with_reducible exact da_nil | with_reducible apply da_cons
  | with_reducible apply de_op | with_reducible apply de_un | with_reducible apply de_cb | with_reducible apply de_call
  | with_reducible apply de_tup | with_reducible apply de_lst
  | with_reducible apply de_andV | with_reducible apply de_orV | with_reducible apply de_notV | ((with_reducible show _ = true → _); intro _) | ((with_reducible show _ = false → _); intro _)
  | with_reducible apply dt_and | with_reducible apply dt_or | with_reducible apply dt_not | with_reducible apply dt_test | with_reducible apply dt_B
  | with_reducible apply de_slice | with_reducible exact do_none | with_reducible apply do_some | with_reducible apply de_rev
  | with_reducible apply de_maxD | with_reducible apply de_chain3 | with_reducible apply de_chain
  | walk_at "r2" | walk_at "rc" | walk_at "ob"
  | ((with_reducible show R1D _ _ (D.int _) _); exact r1_neg)
  | with_reducible exact de_ty
  | with_reducible exact ne_int | with_reducible exact ne_lst | with_reducible exact ne_tup | with_reducible exact ne_bl
  | ((with_reducible show List.length _ = _); rfl) | ((with_reducible show List.length _ + 1 = _); rfl)
  | (with_reducible show List.length _ ≤ 1000); exact Nat.le_of_ble_eq_true rfl)
local macro_rules | `(tactic| walk_at "dg") => `(tactic| repeat' (first | exact dg_name _ trivial | exact dg_name _ (by decide) | with_reducible exact dg_nil | with_reducible apply dg_cons | with_reducible apply dg_tup | ((with_reducible show List.length _ = _); rfl)))
local macro_rules | `(tactic| walk_at "de") => `(tactic| repeat' walk_at "d1")
local macro_rules | `(tactic| walk_at "ret") => `(tactic| (apply ds_ret; apply deo; walk_at "de"))
local macro_rules | `(tactic| walk_at "asg") => `(tactic| (apply ds_seq; apply ds_asg; apply deo; walk_at "de"))
local macro_rules | `(tactic| walk_at "drop") => `(tactic| (apply ds_seq; apply ds_drop; apply deo; walk_at "de"))
local macro_rules | `(tactic| walk_at "par") => `(tactic| (apply ds_seq; apply ds_par; apply dao; walk_at "de"))
local macro_rules | `(tactic| walk_at "parG") => `(tactic| (apply ds_seq; apply ds_asgG; apply deo; walk_at "de"; walk_at "dg"))
local macro_rules | `(tactic| walk_at "lc") => `(tactic| first | with_reducible exact lookC_hit | with_reducible exact lookC_nil | ((with_reducible refine lookC_miss (by decide +kernel) ?_); walk_at "lc"))
local macro_rules | `(tactic| walk_at "pc") => `(tactic| first | with_reducible exact putC_hit | with_reducible exact putC_nil | ((with_reducible apply putC_miss); (decide +kernel); (walk_at "pc")))
local macro_rules | `(tactic| walk_at "cl") => `(tactic| first | with_reducible exact Tx.c_Band _ | with_reducible exact Tx.i_Band _ | with_reducible exact Tx.n_Band_lows _ | with_reducible exact Tx.n_Band_highs _ | with_reducible exact Tx.c_Barred _ | with_reducible exact Tx.i_Barred _ | with_reducible exact Tx.n_Barred_first _ | with_reducible exact Tx.n_Barred_second _ | with_reducible exact Tx.c_Evened _ | with_reducible exact Tx.i_Evened _ | with_reducible exact Tx.n_Evened_row _ | with_reducible exact Tx.n_Evened_first _ | with_reducible exact Tx.n_Evened_second _ | with_reducible exact Tx.c_Squared _ | with_reducible exact Tx.i_Squared _ | with_reducible exact Tx.n_Squared_row _ | with_reducible exact Tx.c_Summed _ | with_reducible exact Tx.i_Summed _ | with_reducible exact Tx.n_Summed_row _ | with_reducible exact Tx.n_Summed_pulls _ | with_reducible exact Tx.is_Band_Barred _ | with_reducible exact Tx.is_Band_Evened _ | with_reducible exact Tx.is_Band_Squared _ | with_reducible exact Tx.is_Band_Summed _ | with_reducible exact Tx.is_Barred_Band _ | with_reducible exact Tx.is_Barred_Evened _ | with_reducible exact Tx.is_Barred_Squared _ | with_reducible exact Tx.is_Barred_Summed _ | with_reducible exact Tx.is_Evened_Band _ | with_reducible exact Tx.is_Evened_Barred _ | with_reducible exact Tx.is_Evened_Squared _ | with_reducible exact Tx.is_Evened_Summed _ | with_reducible exact Tx.is_Squared_Band _ | with_reducible exact Tx.is_Squared_Barred _ | with_reducible exact Tx.is_Squared_Evened _ | with_reducible exact Tx.is_Squared_Summed _ | with_reducible exact Tx.is_Summed_Band _ | with_reducible exact Tx.is_Summed_Barred _ | with_reducible exact Tx.is_Summed_Evened _ | with_reducible exact Tx.is_Summed_Squared _| with_reducible exact (Tx.i_Band _).me | with_reducible exact (Tx.i_Barred _).me | with_reducible exact (Tx.i_Evened _).me | with_reducible exact (Tx.i_Squared _).me | with_reducible exact (Tx.i_Summed _).me)
local macro_rules | `(tactic| walk_at "d1") => `(tactic| first | exact c_common | with_reducible apply c_is_number)
local macro_rules | `(tactic| walk_at "d1") => `(tactic| with_reducible apply c_lowest)
local macro_rules | `(tactic| walk_at "d1") => `(tactic| with_reducible apply c_are_numbers)
local macro_rules | `(tactic| walk_at "d1") => `(tactic| with_reducible apply c_check_numbers)
local macro_rules | `(tactic| walk_at "d1") => `(tactic| with_reducible apply c_check_row)
local macro_rules | `(tactic| walk_at "d1") => `(tactic| with_reducible apply c_check_weights)
local macro_rules | `(tactic| walk_at "d1") => `(tactic| with_reducible apply c_greatest_of)
local macro_rules | `(tactic| walk_at "d1") => `(tactic| with_reducible apply c_sum_of)
local macro_rules | `(tactic| walk_at "d1") => `(tactic| first | with_reducible apply c_greatest | with_reducible apply c_summed_up | with_reducible exact c_is_fraction)
local macro_rules | `(tactic| walk_at "d1") => `(tactic| first | with_reducible exact c__law_whole2 | with_reducible apply c__law_whole)
local macro_rules | `(tactic| walk_at "d1") => `(tactic| with_reducible first | exact div21 | exact div3 | exact div2 | exact div5 | exact div7 | exact div30 | exact div230 | exact pos21 | exact pos2 | exact pos3 | exact pos5 | exact pos7 | exact pos9 | exact pos12 | exact posE30 | exact posE9 | exact mul2 | exact mul2l | exact mul3l)
local macro_rules | `(tactic| walk_at "d1") => `(tactic| first | with_reducible apply c__law_numbers | with_reducible apply c__law_weights)
local macro_rules | `(tactic| walk_at "d1") => `(tactic| with_reducible apply c_rises)
local macro_rules | `(tactic| walk_at "d1") => `(tactic| with_reducible apply c_highest_so_far)
local macro_rules | `(tactic| walk_at "d1") => `(tactic| with_reducible apply c_worst_places)
local macro_rules | `(tactic| walk_at "d1") => `(tactic| with_reducible apply c_Evened_shows)
local macro_rules | `(tactic| walk_at "d1") => `(tactic| with_reducible apply c__law_rises)
local macro_rules | `(tactic| walk_at "d1") => `(tactic| first | with_reducible apply c__law_even | with_reducible apply c__law_whole | with_reducible exact c__law_whole2)
local macro_rules | `(tactic| walk_at "d1") => `(tactic| first | with_reducible apply c_Band_shows | with_reducible exact c_Barred_shows)
/-! ## the pooled row lacks nothing -/
def sp (ns ws : List Int) : Nat → Int
  | 0 => 0
  | i + 1 => sp ns ws i + ws.getD i 0 * ns.getD i 0
def wsum (ws : List Int) : Nat → Int
  | 0 => 0
  | i + 1 => wsum ws i + ws.getD i 0
theorem wsum_up {ws : List Int} (hw : Wts ws) {a : Nat} : ∀ {b : Nat}, a ≤ b → b ≤ ws.length → wsum ws a ≤ wsum ws b
  | 0, h, _ => by
    obtain rfl : a = 0 := by omega
    exact Int.le_refl _
  | b + 1, h, hb => by
    by_cases e : a = b + 1
    · rw [e]
      exact Int.le_refl _
    · have q := wsum_up (b := b) hw (a := a) (by omega) (by omega)
      have := hw _ (getD_mem (z := 0) (show b < ws.length by omega))
      show _ ≤ wsum ws b + ws.getD b 0
      omega
structure Okb (ns ws : List Int) (a : Nat) (b : Bk) : Prop where
  t : b.t = sp ns ws (a + b.m) - sp ns ws a
  w : b.w = wsum ws (a + b.m) - wsum ws a
  m : 0 < b.m
  w0 : 0 < b.w
  pre : ∀ c, a ≤ c → c ≤ a + b.m → b.t * (wsum ws c - wsum ws a) ≤ (sp ns ws c - sp ns ws a) * b.w
theorem pool_lo {P U Q V p u : Int} (hU : 0 < U) (hV : 0 < V) (hu : 0 ≤ u) (h : Q * U < P * V) (h1 : P * u ≤ p * U) : (Q + P) * u ≤ p * (V + U) := by
  refine Int.le_of_mul_le_mul_left (a := U) ?_ hU
  have h2 : P * u * (V + U) ≤ p * U * (V + U) := Int.mul_le_mul_of_nonneg_right h1 (by omega)
  have h3 : 0 ≤ u * (P * V - Q * U) := Int.mul_nonneg hu (by omega)
  have e1 : U * ((Q + P) * u) + u * (P * V - Q * U) = P * u * (V + U) := by grind
  have e2 : p * U * (V + U) = U * (p * (V + U)) := by grind
  omega
theorem pool_hi {P U Q V p v : Int} (hU : 0 < U) (hV : 0 < V) (hv : v ≤ V) (h : Q * U < P * V) (h1 : Q * v ≤ p * V) : (Q + P) * (U + v) ≤ (P + p) * (V + U) := by
  refine Int.le_of_mul_le_mul_left (a := V) ?_ hV
  have h2 : Q * v * (V + U) ≤ p * V * (V + U) := Int.mul_le_mul_of_nonneg_right h1 (by omega)
  have h3 : 0 ≤ (V - v) * (P * V - Q * U) := Int.mul_nonneg (by omega) (by omega)
  have e1 : V * ((Q + P) * (U + v)) + (V - v) * (P * V - Q * U) = V * P * (V + U) + Q * v * (V + U) := by grind
  have e2 : V * ((P + p) * (V + U)) = V * P * (V + U) + p * V * (V + U) := by grind
  omega
theorem Okb.add {ns ws : List Int} (hw : Wts ws) {a0 a : Nat} {b c : Bk} (hb : Okb ns ws a0 b) (hc : Okb ns ws a c) (e : a0 + b.m = a) (he : a + c.m ≤ ws.length) (h : c.t * b.w < b.t * c.w) : Okb ns ws a0 (c.add b) := by
  have em : a0 + (c.add b).m = a + c.m := by
    show a0 + (c.m + b.m) = _
    omega
  have bt := hb.t
  have bw := hb.w
  have ct := hc.t
  have cw := hc.w
  rw [e] at bt bw
  refine ⟨?_, ?_, ?_, ?_, fun x h1 h2 => ?_⟩
  · rw [em]
    show c.t + b.t = _
    omega
  · rw [em]
    show c.w + b.w = _
    omega
  · show 0 < c.m + b.m
    have := hb.m
    omega
  · show 0 < c.w + b.w
    have := hb.w0
    have := hc.w0
    omega
  · rw [em] at h2
    show (c.t + b.t) * _ ≤ _ * (c.w + b.w)
    rcases Nat.le_total x a with hx | hx
    · have := wsum_up hw h1 (by omega)
      exact pool_lo hb.w0 hc.w0 (by omega) h (hb.pre x h1 (by omega))
    · have q := hc.pre x hx h2
      have := wsum_up hw h2 he
      have r := pool_hi (p := sp ns ws x - sp ns ws a) (v := wsum ws x - wsum ws a) hb.w0 hc.w0 (by omega) h q
      rw [show wsum ws x - wsum ws a0 = b.w + (wsum ws x - wsum ws a) by omega, show sp ns ws x - sp ns ws a0 = b.t + (sp ns ws x - sp ns ws a) by omega]
      exact r
inductive Cov (ns ws : List Int) : List Bk → Nat → Prop
  | nil : Cov ns ws [] 0
  | cons {r : List Bk} {b : Bk} {a e : Nat} : Cov ns ws r a → Okb ns ws a b → a + b.m = e → (∀ x, r.head? = some x → x.t * b.w ≤ b.t * x.w) → Cov ns ws (b :: r) e
theorem mrg_cov {ns ws : List Int} (hw : Wts ws) : ∀ (r : List Bk) (c : Bk) (a : Nat), Cov ns ws r a → Okb ns ws a c → a + c.m ≤ ws.length → Cov ns ws (mrg r c) (a + c.m)
  | [], c, a, h, hc, he => by
    unfold mrg
    exact .cons h hc rfl fun x hx => by cases hx
  | b :: r, c, a, h, hc, he => by
    unfold mrg
    split
    · rename_i hlt
      cases h with
      | @cons _ _ a0 _ h0 hb e0 _ =>
        have q := mrg_cov hw r (c.add b) a0 h0 (hb.add hw hc e0 he hlt) (by show a0 + (c.m + b.m) ≤ _; omega)
        rw [show a + c.m = a0 + (c.add b).m by show _ = a0 + (c.m + b.m); omega]
        exact q
    · rename_i hlt
      refine .cons h hc rfl fun x hx => ?_
      cases hx
      omega
theorem blk1_ok {ns ws : List Int} (hw : Wts ws) {i : Nat} (hi : i < ws.length) : Okb ns ws i (blk1 ns ws i) := by
  have h := hw _ (getD_mem (z := 0) hi)
  refine ⟨?_, ?_, Nat.one_pos, h.1, fun c h1 h2 => ?_⟩
  · show _ = sp ns ws i + ws.getD i 0 * ns.getD i 0 - sp ns ws i
    show ws.getD i 0 * ns.getD i 0 = _
    omega
  · show ws.getD i 0 = wsum ws i + ws.getD i 0 - wsum ws i
    omega
  · have h2' : c ≤ i + 1 := h2
    by_cases e : c = i
    · rw [e, Int.sub_self, Int.sub_self, Int.mul_zero, Int.zero_mul]
      exact Int.le_refl _
    · obtain rfl : c = i + 1 := by omega
      show (ws.getD i 0 * ns.getD i 0) * (wsum ws i + ws.getD i 0 - wsum ws i) ≤ (sp ns ws i + ws.getD i 0 * ns.getD i 0 - sp ns ws i) * ws.getD i 0
      rw [show wsum ws i + ws.getD i 0 - wsum ws i = ws.getD i 0 by omega, show sp ns ws i + ws.getD i 0 * ns.getD i 0 - sp ns ws i = ws.getD i 0 * ns.getD i 0 by omega]
      exact Int.le_refl _
theorem stk_cov {ns ws : List Int} (hw : Wts ws) : ∀ i, i ≤ ws.length → Cov ns ws (stk ns ws i) i
  | 0, _ => .nil
  | i + 1, hi => mrg_cov hw _ _ i (stk_cov hw i (by omega)) (blk1_ok hw hi) hi
def rowR (r : List Bk) : List Rat := (r.reverse.map Bk.qs).flatten
theorem rowR_cons (b : Bk) (r : List Bk) : rowR (b :: r) = rowR r ++ List.replicate b.m b.q := by
  unfold rowR
  rw [List.reverse_cons, List.map_append, List.flatten_append, List.map_singleton, List.flatten_singleton]
  rfl
theorem rowR_len {ns ws : List Int} : ∀ {r : List Bk} {e : Nat}, Cov ns ws r e → (rowR r).length = e
  | _, _, .nil => rfl
  | _, _, .cons h _ he _ => by
    rw [rowR_cons, List.length_append, List.length_replicate, rowR_len h]
    exact he
theorem lt_self (q : Rat) : ltQ q q = false := decide_eq_false (Int.lt_irrefl _)
theorem not_lt {b x : Bk} (hb : 0 < b.w) (hx : 0 < x.w) (h : x.t * b.w ≤ b.t * x.w) : ltQ b.q x.q = false := by
  unfold ltQ Bk.q
  rw [frac_num hb, frac_den hb, frac_num hx, frac_den hx]
  have g1 := gcd_pos (a := b.t) hb
  have g2 := gcd_pos (a := x.t) hx
  have d1 := Int.ediv_mul_cancel (show (Int.gcd b.t b.w : Int) ∣ b.t from Int.gcd_dvd_left b.t b.w)
  have d2 := Int.ediv_mul_cancel (show (Int.gcd b.t b.w : Int) ∣ b.w from Int.gcd_dvd_right b.t b.w)
  have d3 := Int.ediv_mul_cancel (show (Int.gcd x.t x.w : Int) ∣ x.t from Int.gcd_dvd_left x.t x.w)
  have d4 := Int.ediv_mul_cancel (show (Int.gcd x.t x.w : Int) ∣ x.w from Int.gcd_dvd_right x.t x.w)
  generalize (Int.gcd b.t b.w : Int) = g at *
  generalize (Int.gcd x.t x.w : Int) = k at *
  rw [← d1, ← d2, ← d3, ← d4] at h
  refine decide_eq_false (Int.not_lt.mpr ?_)
  generalize b.t / g = p at *
  generalize b.w / g = q at *
  generalize x.t / k = r at *
  generalize x.w / k = s at *
  refine Int.le_of_mul_le_mul_left (a := g * k) ?_ (Int.mul_pos g1 g2)
  have e1 : g * k * (r * q) = r * k * (q * g) := by grind
  have e2 : g * k * (p * s) = p * g * (s * k) := by grind
  omega
theorem frac_zero (w : Int) : frac 0 w = 0 := by
  unfold frac
  simp
/-- the lacks within the last block -/
theorem seg {ns ws : List Int} {Q : List Rat} {a : Nat} {b : Bk} (hb : 0 < b.w) (h0 : lacks ns Q ws a = 0) (hq : ∀ j, a ≤ j → j < a + b.m → Q.getD j 0 = b.q) : ∀ k, k ≤ b.m → lacks ns Q ws (a + k) = frac ((sp ns ws (a + k) - sp ns ws a) * b.w - b.t * (wsum ws (a + k) - wsum ws a)) b.w
  | 0, _ => by
    rw [Nat.add_zero, h0, Int.sub_self, Int.sub_self, Int.zero_mul, Int.mul_zero, Int.sub_self, frac_zero]
  | k + 1, hk => by
    have ih := seg hb h0 hq k (by omega)
    rw [← Nat.add_assoc, lacks_succ, ih, hq (a + k) (by omega) (by omega)]
    show _ + lackQ _ b.q _ = frac ((sp ns ws (a + k) + ws.getD (a + k) 0 * ns.getD (a + k) 0 - sp ns ws a) * b.w - b.t * (wsum ws (a + k) + ws.getD (a + k) 0 - wsum ws a)) b.w
    unfold lackQ Bk.q
    rw [frac_eq hb, frac_eq hb, frac_eq hb]
    have hd : (b.w : Rat) ≠ 0 := fun z => by
      have := Rat.intCast_inj.mp (show (b.w : Rat) = ((0 : Int) : Rat) from z)
      omega
    generalize sp ns ws (a + k) = s1
    generalize sp ns ws a = s0
    generalize wsum ws (a + k) = w1
    generalize wsum ws a = w0
    generalize ws.getD (a + k) 0 = w
    generalize ns.getD (a + k) 0 = n
    generalize b.t = t
    generalize b.w = u at *
    simp only [Rat.intCast_mul, Rat.intCast_sub, Rat.intCast_add]
    grind
theorem frac_sign {x w : Int} (hw : 0 < w) (h : 0 ≤ x) : decide ((frac x w).num < 0) = false := by
  rw [frac_num hw]
  have := Int.ediv_nonneg h (Int.le_of_lt (gcd_pos (a := x) hw))
  exact decide_eq_false (by omega)
theorem cov_good {ns ws : List Int} : ∀ {r : List Bk} {e : Nat}, Cov ns ws r e → ∀ Q : List Rat, (∀ j, j < e → Q.getD j 0 = (rowR r).getD j 0) →
    lacks ns Q ws e = 0 ∧ (∀ i, i < e → sqAt ns Q ws i = true) ∧ ∀ x, r.head? = some x → 0 < e ∧ Q.getD (e - 1) 0 = x.q ∧ 0 < x.w
  | _, _, .nil, Q, _ => ⟨rfl, fun i hi => by omega, fun x hx => by cases hx⟩
  | _, _, .cons (r := r) (b := b) (a := a) (e := e) h hb he hh, Q, hQ => by
    have la := rowR_len h
    have q1 : ∀ j, j < a → Q.getD j 0 = (rowR r).getD j 0 := fun j hj => by
      rw [hQ j (by omega), rowR_cons, List.getD_eq_getElem?_getD, List.getD_eq_getElem?_getD, List.getElem?_append_left (by omega)]
    have q2 : ∀ j, a ≤ j → j < a + b.m → Q.getD j 0 = b.q := fun j h1 h2 => by
      rw [hQ j (by omega), rowR_cons, List.getD_eq_getElem?_getD, List.getElem?_append_right (by omega), la, List.getElem?_replicate, if_pos (by omega)]
      rfl
    obtain ⟨i1, i2, i3⟩ := cov_good h Q q1
    have sg := seg hb.w0 i1 q2
    refine ⟨?_, fun i hi => ?_, fun x hx => ?_⟩
    · have z := sg b.m (Nat.le_refl _)
      rw [← hb.t, ← hb.w, show b.t * b.w - b.t * b.w = 0 by omega, frac_zero] at z
      rw [← he, z]
    · by_cases hia : i < a
      · exact i2 i hia
      · have hm := hb.m
        have up1 : decide ((lacks ns Q ws (i + 1)).num < 0) = false := by
          have z := sg (i + 1 - a) (by omega)
          rw [show a + (i + 1 - a) = i + 1 by omega] at z
          rw [z]
          have p := hb.pre (i + 1) (by omega) (by omega)
          exact frac_sign hb.w0 (by omega)
        unfold sqAt
        rw [up1]
        by_cases hea : i = a
        · have d1 : stepDown Q i = false := by
            unfold stepDown
            by_cases h0 : 0 < i
            · cases r with
              | nil => cases h; omega
              | cons x r =>
                obtain ⟨j1, j2, j3⟩ := i3 x rfl
                rw [q2 i (by omega) (by omega), hea, j2, not_lt hb.w0 j3 (hh x rfl), Bool.and_false]
            · rw [decide_eq_false (by omega)]
              rfl
          rw [d1, hea, i1]
          simp
        · have e1 : Q.getD i 0 = b.q := q2 i (by omega) (by omega)
          have e2 : Q.getD (i - 1) 0 = b.q := q2 (i - 1) (by omega) (by omega)
          unfold stepDown stepUp
          rw [e1, e2, lt_self]
          simp
    · cases hx
      have hm := hb.m
      exact ⟨by omega, q2 (e - 1) (by omega) (by omega), hb.w0⟩
theorem rowOf_len {ns ws : List Int} (he : ws.length = ns.length) (hw : Wts ws) : (rowOf ns ws).length = ns.length := rowR_len (stk_cov hw ns.length (by omega))
theorem sq_good {ns ws : List Int} (he : ws.length = ns.length) (hw : Wts ws) : sqOk ns (rowOf ns ws) ws = true := by
  obtain ⟨h1, h2, _⟩ := cov_good (stk_cov (ns := ns) hw ns.length (by omega)) (rowOf ns ws) fun _ _ => rfl
  unfold sqOk
  rw [if_pos (rowOf_len he hw), h1, List.all_eq_true.mpr fun i hi => h2 i (List.mem_range.mp hi)]
  rfl
theorem rowOf_fit {ns ws : List Int} (hl : ns.length ≤ 63) (he : ws.length = ns.length) (hw : Wts ws) (hn : ∀ n ∈ ns, Fit 1048600 n) : ∀ q ∈ rowOf ns ws, QB q := by
  intro q hq
  obtain ⟨l, hl2, hq2⟩ := List.mem_flatten.mp hq
  obtain ⟨b, hb, rfl⟩ := List.mem_map.mp hl2
  have hb' := List.mem_reverse.mp hb
  have bd := stk_bd hn hw he ns.length (Nat.le_refl _) b hb'
  have := tot_mem hb'
  rw [stk_tot] at this
  have f := bd.fit (by omega)
  rw [(List.mem_replicate.mp hq2).2]
  exact ⟨(QFit.frac bd.w0 f.1 f.2).mono (by decide) (by decide)⟩
end
end U

namespace U
open PySem PySem.Spec PyProof.Rows L2 DL
section
variable {P : Program} {w : World} {K : PySem.W.Frag} {mg : Str → Option Value} {base : Heap}
local macro_rules | `(tactic| walk_at "lk") => `(tactic| first | with_reducible exact look_hit | ((with_reducible refine look_miss (by decide +kernel) ?_); walk_at "lk") | with_reducible exact look_nil)
local macro_rules | `(tactic| walk_at "fz") => `(tactic| simp only [fz, fzB, chF, Ch.d, List.map, List.set])
local macro_rules | `(tactic| walk_at "ob") => `(tactic| first
  | ((with_reducible show look _ _ = _); walk_at "lk")
  | with_reducible apply de_callO | ((with_reducible show B.d _ = _); rfl) | ((with_reducible apply de_either1); (with_reducible apply de_meth); exact de_var rfl) | ((with_reducible apply de_either2); (with_reducible apply de_meth); exact de_var rfl)
  | with_reducible exact de_cls | with_reducible apply de_fld | with_reducible apply rc_isC | with_reducible apply de_meth
  | walk_at "cl")
local macro_rules | `(tactic| walk_at "r2") => `(tactic| (fail_if_success (with_reducible show R2D _ _ D.non _ _)); (fail_if_success (with_reducible show R2D _ _ _ D.non _)); first
  | exact r2_add | exact r2_sub | exact r2_lt | exact r2_le | exact r2_gt | exact r2_ge
  | with_reducible exact r2_p30 | with_reducible exact r2_p9
  | with_reducible apply r2_mod | with_reducible apply r2_fdiv | with_reducible apply r2_mul | with_reducible apply r2_pow | with_reducible apply r2_cat | with_reducible apply r2_rep1
  | exact r2_ixT rfl | exact r2_ixL rfl | with_reducible apply r2_ixN | with_reducible apply r2_ixI
  | exact r2_eqI | exact r2_neI | exact r2_eqB | exact r2_neB | exact r2_eqL | exact r2_neL | exact r2_isB | exact r2_notB)
local macro_rules | `(tactic| walk_at "rc") => `(tactic| (fail_if_success (with_reducible show RCD _ _ [D.non] _)); (fail_if_success (with_reducible show RCD _ _ [D.non, _] _)); (fail_if_success (with_reducible show RCD _ _ [_, D.non] _)); first
  | with_reducible exact rc_srt
  | exact rc_abs | exact rc_max2 | exact rc_min2 | exact rc_sum | exact rc_all | exact rc_any | exact rc_lenL | exact rc_lenT | exact rc_listL | exact rc_listT
  | with_reducible apply rc_int | with_reducible apply rc_bool | with_reducible apply rc_list | with_reducible apply rc_tuple)
local macro_rules | `(tactic| walk_at "d1") => `(tactic| first
  | with_reducible exact de_int | with_reducible exact de_bl | with_reducible exact de_non | exact de_var rfl
  | with_reducible exact da_nil | with_reducible apply da_cons
  | with_reducible apply de_op | with_reducible apply de_un | with_reducible apply de_cb | with_reducible apply de_call
  | with_reducible apply de_tup | with_reducible apply de_lst
  | with_reducible apply de_andV | with_reducible apply de_orV | with_reducible apply de_notV | ((with_reducible show _ = true → _); intro _) | ((with_reducible show _ = false → _); intro _)
  | with_reducible apply dt_and | with_reducible apply dt_or | with_reducible apply dt_not | with_reducible apply dt_test | with_reducible apply dt_B
  | with_reducible apply de_slice | with_reducible exact do_none | with_reducible apply do_some | with_reducible apply de_rev
  | with_reducible apply de_maxD | with_reducible apply de_chain3 | with_reducible apply de_chain
  | walk_at "r2" | walk_at "rc" | walk_at "ob"
  | ((with_reducible show R1D _ _ (D.int _) _); exact r1_neg)
  | with_reducible exact de_ty
  | with_reducible exact ne_int | with_reducible exact ne_lst | with_reducible exact ne_tup | with_reducible exact ne_bl
  | ((with_reducible show List.length _ = _); rfl) | ((with_reducible show List.length _ + 1 = _); rfl)
  | (with_reducible show List.length _ ≤ 1000); exact Nat.le_of_ble_eq_true rfl)
local macro_rules | `(tactic| walk_at "dg") => `(tactic| repeat' (first | exact dg_name _ trivial | exact dg_name _ (by decide) | with_reducible exact dg_nil | with_reducible apply dg_cons | with_reducible apply dg_tup | ((with_reducible show List.length _ = _); rfl)))
local macro_rules | `(tactic| walk_at "de") => `(tactic| repeat' walk_at "d1")
local macro_rules | `(tactic| walk_at "ret") => `(tactic| (apply ds_ret; apply deo; walk_at "de"))
local macro_rules | `(tactic| walk_at "asg") => `(tactic| (apply ds_seq; apply ds_asg; apply deo; walk_at "de"))
local macro_rules | `(tactic| walk_at "drop") => `(tactic| (apply ds_seq; apply ds_drop; apply deo; walk_at "de"))
local macro_rules | `(tactic| walk_at "par") => `(tactic| (apply ds_seq; apply ds_par; apply dao; walk_at "de"))
local macro_rules | `(tactic| walk_at "parG") => `(tactic| (apply ds_seq; apply ds_asgG; apply deo; walk_at "de"; walk_at "dg"))
local macro_rules | `(tactic| walk_at "lc") => `(tactic| first | with_reducible exact lookC_hit | with_reducible exact lookC_nil | ((with_reducible refine lookC_miss (by decide +kernel) ?_); walk_at "lc"))
local macro_rules | `(tactic| walk_at "pc") => `(tactic| first | with_reducible exact putC_hit | with_reducible exact putC_nil | ((with_reducible apply putC_miss); (decide +kernel); (walk_at "pc")))
local macro_rules | `(tactic| walk_at "cl") => `(tactic| first | with_reducible exact Tx.c_Band _ | with_reducible exact Tx.i_Band _ | with_reducible exact Tx.n_Band_lows _ | with_reducible exact Tx.n_Band_highs _ | with_reducible exact Tx.c_Barred _ | with_reducible exact Tx.i_Barred _ | with_reducible exact Tx.n_Barred_first _ | with_reducible exact Tx.n_Barred_second _ | with_reducible exact Tx.c_Evened _ | with_reducible exact Tx.i_Evened _ | with_reducible exact Tx.n_Evened_row _ | with_reducible exact Tx.n_Evened_first _ | with_reducible exact Tx.n_Evened_second _ | with_reducible exact Tx.c_Squared _ | with_reducible exact Tx.i_Squared _ | with_reducible exact Tx.n_Squared_row _ | with_reducible exact Tx.c_Summed _ | with_reducible exact Tx.i_Summed _ | with_reducible exact Tx.n_Summed_row _ | with_reducible exact Tx.n_Summed_pulls _ | with_reducible exact Tx.is_Band_Barred _ | with_reducible exact Tx.is_Band_Evened _ | with_reducible exact Tx.is_Band_Squared _ | with_reducible exact Tx.is_Band_Summed _ | with_reducible exact Tx.is_Barred_Band _ | with_reducible exact Tx.is_Barred_Evened _ | with_reducible exact Tx.is_Barred_Squared _ | with_reducible exact Tx.is_Barred_Summed _ | with_reducible exact Tx.is_Evened_Band _ | with_reducible exact Tx.is_Evened_Barred _ | with_reducible exact Tx.is_Evened_Squared _ | with_reducible exact Tx.is_Evened_Summed _ | with_reducible exact Tx.is_Squared_Band _ | with_reducible exact Tx.is_Squared_Barred _ | with_reducible exact Tx.is_Squared_Evened _ | with_reducible exact Tx.is_Squared_Summed _ | with_reducible exact Tx.is_Summed_Band _ | with_reducible exact Tx.is_Summed_Barred _ | with_reducible exact Tx.is_Summed_Evened _ | with_reducible exact Tx.is_Summed_Squared _| with_reducible exact (Tx.i_Band _).me | with_reducible exact (Tx.i_Barred _).me | with_reducible exact (Tx.i_Evened _).me | with_reducible exact (Tx.i_Squared _).me | with_reducible exact (Tx.i_Summed _).me)
local macro_rules | `(tactic| walk_at "d1") => `(tactic| first | exact c_common | with_reducible apply c_is_number)
local macro_rules | `(tactic| walk_at "d1") => `(tactic| with_reducible apply c_lowest)
local macro_rules | `(tactic| walk_at "d1") => `(tactic| with_reducible apply c_are_numbers)
local macro_rules | `(tactic| walk_at "d1") => `(tactic| with_reducible apply c_check_numbers)
local macro_rules | `(tactic| walk_at "d1") => `(tactic| with_reducible apply c_check_row)
local macro_rules | `(tactic| walk_at "d1") => `(tactic| with_reducible apply c_check_weights)
local macro_rules | `(tactic| walk_at "d1") => `(tactic| with_reducible apply c_greatest_of)
local macro_rules | `(tactic| walk_at "d1") => `(tactic| with_reducible apply c_sum_of)
local macro_rules | `(tactic| walk_at "d1") => `(tactic| first | with_reducible apply c_greatest | with_reducible apply c_summed_up | with_reducible exact c_is_fraction)
local macro_rules | `(tactic| walk_at "d1") => `(tactic| first | with_reducible exact c__law_whole2 | with_reducible apply c__law_whole)
local macro_rules | `(tactic| walk_at "d1") => `(tactic| with_reducible first | exact div21 | exact div3 | exact div2 | exact div5 | exact div7 | exact div30 | exact div230 | exact pos21 | exact pos2 | exact pos3 | exact pos5 | exact pos7 | exact pos9 | exact pos12 | exact posE30 | exact posE9 | exact mul2 | exact mul2l | exact mul3l)
local macro_rules | `(tactic| walk_at "d1") => `(tactic| first | with_reducible apply c__law_numbers | with_reducible apply c__law_weights)
local macro_rules | `(tactic| walk_at "d1") => `(tactic| with_reducible apply c_rises)
local macro_rules | `(tactic| walk_at "d1") => `(tactic| with_reducible apply c_highest_so_far)
local macro_rules | `(tactic| walk_at "d1") => `(tactic| with_reducible apply c_worst_places)
local macro_rules | `(tactic| walk_at "d1") => `(tactic| with_reducible apply c_Evened_shows)
local macro_rules | `(tactic| walk_at "d1") => `(tactic| with_reducible apply c__law_rises)
local macro_rules | `(tactic| walk_at "d1") => `(tactic| first | with_reducible apply c__law_even | with_reducible apply c__law_whole | with_reducible exact c__law_whole2)
local macro_rules | `(tactic| walk_at "d1") => `(tactic| first | with_reducible apply c_Band_shows | with_reducible exact c_Barred_shows)
/-! ## summed: medians, blocks, pulls -/
def nAt (ns : List Int) (p : Int) : Int := ns.getD p.toNat 0
/-- places that stand in a list of that length -/
def Pls (n : Nat) (ps : List Int) : Prop := ∀ p ∈ ps, 0 ≤ p ∧ p < (n : Int)
theorem Pls.nat {n : Nat} {ps : List Int} (h : Pls n ps) {p : Int} (hp : p ∈ ps) : p = ((p.toNat : Nat) : Int) ∧ p.toNat < n := by
  have := h p hp
  omega
theorem Pls.app {n : Nat} {ps qs : List Int} (h : Pls n ps) (k : Pls n qs) : Pls n (ps ++ qs) := fun p hp => by
  rcases List.mem_append.mp hp with hp | hp
  · exact h p hp
  · exact k p hp
theorem Pls.key {n : Nat} {ns ps : List Int} (h : Pls n ps) : Pls n (byKey ns ps) := fun p hp => h p ((List.mergeSort_perm _ _).mem_iff.mp hp)
theorem r2_pl {ns : List Int} {p : Int} (h : 0 ≤ p ∧ p < (ns.length : Int)) : R2D K (rIx K) (.lst (dI ns)) (.int p) (.int (nAt ns p)) := r2_ixI h.1 h.2
def wOn (ws ps : List Int) : Int := (ps.map (nAt ws)).sum
def medStep (ns ws : List Int) (whole : Int) (s : Int × Int) (p : Int) : Int × Int := (if 2 * s.2 < whole then nAt ns p else s.1, s.2 + nAt ws p)
def med (ns ws ps : List Int) : Int := ((byKey ns ps).foldl (medStep ns ws (wOn ws ps)) (0, 0)).1
theorem foldl_take {α β : Type} (f : β → α → β) (z : β) {xs : List α} {i : Nat} {d : α} (h : i < xs.length) : (xs.take (i + 1)).foldl f z = f ((xs.take i).foldl f z) (xs.getD i d) := by
  rw [List.take_succ, List.getElem?_eq_getElem h, List.getD_eq_getElem?_getD, List.getElem?_eq_getElem h]
  show (List.take i xs ++ [xs[i]]).foldl f z = _
  rw [List.foldl_append]
  rfl
theorem key_len (ns ps : List Int) : (byKey ns ps).length = ps.length := List.length_mergeSort _
def R_median (ds : List D) (d : D) : Prop := ∃ ns ws ps : List Int, ds = [.lst (dI ns), .lst (dI ws), .lst (dI ps)] ∧ ns.length ≤ 63 ∧ ws.length = ns.length ∧ ps.length ≤ 1000 ∧ Pls ns.length ps ∧ d = .int (med ns ws ps)
theorem ok_median (T : Tx K mg base) : FnOk P w K mg base CX0 2 T.a_median T.d_median ["numbers", "weights", "places"] (spR K 3 R_median) := by
  refine pure_okC (c := T.c_tab) (PT := T.P_tab) T.F_median T.ns_median T.tab sc_median rfl (fun A outer s H E hr => ?_)
  have nd := sc_median.nd
  have hu := hr.units
  refine ⟨_, (pss_cons (ps_set (i := 3) nd rfl (by first | exact Or.inl rfl | exact Or.inr rfl) (pe_callB (sumK K rfl) (by rfl) T.m_sum bt_sum (pa_cons (pe_lc (own := [("at", 6)]) (g := (gName 6)) (tt := tYes) rfl nd (pi_listK K (pv 2)) (blkOk_by (own := [("at", 6)]) (N := N_median) (sc := defScope s_median) (by decide +kernel)) (fun _ _ _ _ _ => (pg_name (i := 6) nd rfl (by first | exact Or.inl rfl | exact Or.inr rfl))) (fun _ _ _ _ _ => pts_nil) (fun _ _ _ _ _ => (pe_ix (ixK K) (pv 1) (pv 6) (fun _ _ => rfl)))) pa_nil)))
      (pss_cons (ps_set (i := 4) nd rfl (by first | exact Or.inl rfl | exact Or.inr rfl) pe_int)
      (pss_cons (ps_set (i := 5) nd rfl (by first | exact Or.inl rfl | exact Or.inr rfl) pe_int)
      (pss_cons (ps_for PassesOwn.never rfl (pi_listK K (pe_sortLam (i := 0) (by rfl) T.m_sorted (pa_cons (pv 2) pa_nil) rfl T.tab T.TB rfl qn_med (hr.mono (by decide)) (show lamLB (defScope s_median) _ _ _ = true from by decide +kernel) rfl (fun _ _ _ _ _ _ => rfl))) (pg_name (i := 6) nd rfl (by first | exact Or.inl rfl | exact Or.inr rfl)) (pss_cons (ps_if (pt_cmpR op_lt (pe_op (mulK K) pe_int (pv 5)) (pv 3) (nomark _)) (pss_one (ps_set (i := 4) nd rfl (by first | exact Or.inl rfl | exact Or.inr rfl) (pe_ix (ixK K) (pv 0) (pv 6) (fun _ _ => rfl)))) pss_nil)
      (pss_one (ps_set (i := 5) nd rfl (by first | exact Or.inl rfl | exact Or.inr rfl) (pe_op (addK K) (pv 5) (pe_ix (ixK K) (pv 1) (pv 6) (fun _ _ => rfl)))))))
      (pss_one (ps_ret (pv 4))))))), fun ds d h => ?_⟩
  obtain ⟨ns, ws, ps, rfl, hl, he, hpl, hps, rfl⟩ := h
  change DS _ _ [B.im _, B.im _, B.im _, B.no, B.no, B.no, B.no] _
  apply ds_seq
  apply ds_asg (d := .int (wOn ws ps))
  · refine deo (de_cb (da_cons ?_ da_nil) rc_sum)
    apply de_lcI (nAt ws) (xs := ps) (enc := D.int)
    · exact di_list (de_var rfl)
    · omega
    · intro p hp
      have := hps p hp
      refine ⟨_, dg_name _ (by decide), ?_⟩
      exact de_op (de_var rfl) (de_var rfl) (r2_pl ⟨this.1, by omega⟩)
  walk_at "asg"
  walk_at "asg"
  apply ds_seq
  have hk := hps.key (ns := ns)
  apply ds_for (I := fun i Γ' => ∃ b6, Γ' = [.im (.lst (dI ns)), .im (.lst (dI ws)), .im (.lst (dI ps)), .im (.int (wOn ws ps)), .im (.int (((byKey ns ps).take i).foldl (medStep ns ws (wOn ws ps)) (0, 0)).1), .im (.int (((byKey ns ps).take i).foldl (medStep ns ws (wOn ws ps)) (0, 0)).2), b6])
  · exact di_list (de_sortK (da_cons (de_var rfl) da_nil) rfl hps (by omega))
  · exact ⟨_, rfl⟩
  · rintro i d Γ' hd ⟨b6, rfl⟩
    obtain ⟨hi, rfl⟩ := map_get 0 hd
    have hp := hk _ (getD_mem (z := 0) hi)
    have fs := foldl_take (d := 0) (medStep ns ws (wOn ws ps)) (0, 0) hi
    rw [fs]
    generalize (byKey ns ps).getD i 0 = p at *
    generalize ((byKey ns ps).take i).foldl (medStep ns ws (wOn ws ps)) (0, 0) = s at *
    refine ⟨_, dg_name _ trivial, ?_⟩
    apply ds_cut [.im (.lst (dI ns)), .im (.lst (dI ws)), .im (.lst (dI ps)), .im (.int (wOn ws ps)), .im (.int (medStep ns ws (wOn ws ps) s p).1), .im (.int s.2), .im (.int p)]
    · apply ds_if (b := decide (2 * s.2 < wOn ws ps))
      · apply dto
        walk_at "de"
        all_goals exact mul2l
      · intro hb
        apply ds_asg
        · exact deo (de_op (de_var rfl) (de_var rfl) (r2_pl hp))
        · unfold medStep
          rw [if_pos (of_decide_eq_true hb)]
          rfl
      · intro hb
        apply ds_next
        unfold medStep
        rw [if_neg (of_decide_eq_false hb)]
        rfl
    · apply ds_asg (d := .int (medStep ns ws (wOn ws ps) s p).2)
      · exact deo (de_op (de_var rfl) (de_op (de_var rfl) (de_var rfl) (r2_pl ⟨hp.1, by omega⟩)) r2_add)
      · exact ⟨_, rfl⟩
  · rintro Γ' ⟨b6, rfl⟩
    walk_at "ret"
    rw [List.length_map, List.take_length]
    rfl
theorem c_median {ns ws ps : List Int} (hl : ns.length ≤ 63) (he : ws.length = ns.length) (hp : ps.length ≤ 1000) (hps : Pls ns.length ps) : R_median [.lst (dI ns), .lst (dI ws), .lst (dI ps)] (.int (med ns ws ps)) := ⟨_, _, _, rfl, hl, he, hp, hps, rfl⟩
/-! ### blocks -/
structure Bs where
  ps : List Int
  l : Int
def Bs.d (b : Bs) : D := .tup [.lst (dI b.ps), .int b.l]
def mrgS (ns ws : List Int) : List Bs → List Int → Int → List Bs
  | [], ps, l => [⟨ps, l⟩]
  | b :: r, ps, l => if l < b.l then mrgS ns ws r (b.ps ++ ps) (med ns ws (b.ps ++ ps)) else ⟨ps, l⟩ :: b :: r
def stkS (ns ws : List Int) : Nat → List Bs
  | 0 => []
  | i + 1 => mrgS ns ws (stkS ns ws i) [(i : Int)] (ns.getD i 0)
def totS (r : List Bs) : Nat := (r.map fun b => b.ps.length).sum
theorem mrgS_tot (ns ws : List Int) : ∀ (r : List Bs) (ps : List Int) (l : Int), totS (mrgS ns ws r ps l) = totS r + ps.length
  | [], ps, l => by
    unfold mrgS totS
    simp
  | b :: r, ps, l => by
    unfold mrgS
    split
    · rw [mrgS_tot ns ws r]
      unfold totS
      simp
      omega
    · unfold totS
      simp
      omega
theorem stkS_tot (ns ws : List Int) : ∀ i, totS (stkS ns ws i) = i
  | 0 => rfl
  | i + 1 => by
    show totS (mrgS _ _ _ _ _) = _
    rw [mrgS_tot, stkS_tot ns ws i]
    rfl
def AllP (n : Nat) (r : List Bs) : Prop := ∀ b ∈ r, Pls n b.ps ∧ b.ps ≠ []
theorem mrgS_all {ns ws : List Int} {n : Nat} : ∀ (r : List Bs) (ps : List Int) (l : Int), AllP n r → Pls n ps → ps ≠ [] → AllP n (mrgS ns ws r ps l)
  | [], ps, l, _, h, h0, b, m => by
    unfold mrgS at m
    rw [List.mem_singleton.mp m]
    exact ⟨h, h0⟩
  | b :: r, ps, l, hr, h, h0, x, m => by
    unfold mrgS at m
    split at m
    · refine mrgS_all r _ _ (fun y hy => hr y (List.mem_cons_of_mem _ hy)) ((hr b List.mem_cons_self).1.app h) (fun z => ?_) x m
      exact h0 (List.append_eq_nil_iff.mp z).2
    · rcases List.mem_cons.mp m with m | m
      · rw [m]
        exact ⟨h, h0⟩
      · exact hr x m
theorem one_pls {n i : Nat} (h : i < n) : Pls n [(i : Int)] := fun p hp => by
  rw [List.mem_singleton.mp hp]
  omega
theorem stkS_all {ns ws : List Int} : ∀ i, i ≤ ns.length → AllP ns.length (stkS ns ws i)
  | 0, _, b, m => by cases m
  | i + 1, hi, b, m => mrgS_all _ _ _ (stkS_all i (by omega)) (one_pls (by omega)) (fun z => by cases z) b m
theorem lastS_d (r : List Bs) (b : Bs) : atI (((b :: r).reverse).map Bs.d) (-1) = some b.d :=
  at_neg (n := r.length) (by rw [List.length_map, List.length_reverse, List.length_cons]) (by
    rw [List.reverse_cons, List.map_append, List.getElem?_append_right (by rw [List.length_map, List.length_reverse]; exact Nat.le_refl _), List.length_map, List.length_reverse, Nat.sub_self]
    rfl)
theorem revS_d (r : List Bs) (b : Bs) : ((b :: r).reverse).map Bs.d = r.reverse.map Bs.d ++ [b.d] := by
  rw [List.reverse_cons, List.map_append]
  rfl
theorem deepS (b : Bs) : deep 2 b.d = true := by
  show (deep 1 (.lst (dI b.ps)) && (deep 1 (.int b.l) && true)) = true
  rw [deep_dI]
  rfl
theorem r2_neNilS {xs : List Bs} : ∀ K : PySem.W.Frag, R2D K (rNeD K) (.lst (xs.map Bs.d)) (.lst []) (.bl (!xs.isEmpty)) := fun K => by
  have hd : deep 3 (.lst (xs.map Bs.d)) = true := deep_map 2 xs deepS
  have q := r2_ne (K := K) 3 3 hd (show deep 3 (.lst []) = true from rfl) (by decide) (by decide)
  cases xs with
  | nil => exact q
  | cons b xs => exact q
/-- x = l.pop()[0] + x -/
theorem ds_popcat {Γ : List B} {P : Post} {ds ps qs : List D} {z : D} (i j : Nat) (hij : i ≠ j) (hi : Γ[i]? = some (.ow (ds ++ [.tup [.lst ps, z]]))) (hj : Γ[j]? = some (.im (.lst qs))) (hl : ps.length + qs.length ≤ 100000) (k : P.nx ((Γ.set i (.ow ds)).set j (.im (.lst (ps ++ qs))))) :
    DS K (tAsg (tOp (rAddX K) (tOp (rIx K) (tBM0 K "list" rPop (tVar i)) (tC (.int 0))) (tVar j)) (gName j)) Γ P := fun bs σ G H Dn ⟨A, e⟩ f => by
  obtain ⟨l, vs, h1, h2, h3, _⟩ := own_at e hi
  have hn : (ds ++ [D.tup [.lst ps, z]])[vs.length - 1]? = some (D.tup [.lst ps, z]) := by
    rw [h3.len, List.length_append, List.length_singleton, Nat.add_sub_cancel, List.getElem?_append_right (Nat.le_refl _), Nat.sub_self]
    rfl
  obtain ⟨v, hv, rv⟩ := h3.at hn
  have hr := h3.dropLast
  rw [List.dropLast_concat] at hr
  have e2 : EnvA K bs G (upd H l (.lst vs.dropLast)) σ (Γ.set i (.ow ds)) A := own_set e hi h1 hr
  refine ⟨_, h1, Or.inl ⟨rfl, _, Or.inl (Or.inl h2)⟩, l, vs, v, rfl, rfl, h2, hv, ?_⟩
  refine (r2_ixT (K := K) (ds := [.lst ps, z]) (i := 0) (d := .lst ps) rfl) v (.int 0) G _ e2.gr.i rv (.int 0) _ fun u G1 H1 g1 ru => ?_
  have e3 := e2.grow g1
  obtain ⟨w, w1, w2⟩ := e3.sl.im j _ (by rw [List.getElem?_set_ne hij]; exact hj)
  refine ⟨w, w1, ?_⟩
  refine (r2_cat (K := K) hl) u w G1 H1 e3.gr.i ru w2 _ fun x G2 H2 g2 rx => ?_
  exact f.nx _ _ G2 H2 k (EnvD.set ⟨A, e3.grow g2⟩ j rx)
def R_pooled (ds : List D) (d : D) : Prop := ∃ ns ws : List Int, ds = [.lst (dI ns), .lst (dI ws)] ∧ ns.length ≤ 63 ∧ ws.length = ns.length ∧ d = .lst ((stkS ns ws ns.length).reverse.map Bs.d)
theorem ok_pooled (T : Tx K mg base) : FnOk P w K mg base CX0 3 T.a_pooled T.d_pooled ["numbers", "weights"] (spR K 2 R_pooled) := by
  refine pure_ok T.F_pooled sc_pooled rfl (fun cdv A outer s H E hr => ?_)
  have nd := sc_pooled.nd
  have hu := hr.units
  refine ⟨_, (pss_cons (ps_set (i := 2) nd rfl (by first | exact Or.inl rfl | exact Or.inr rfl) (pe_lst pa_nil))
      (pss_cons (ps_for PassesOwn.never rfl (pi_range1 (by rfl) T.m_range (pa_cons (pe_callB (lenK K) (by rfl) T.m_len bt_len (pa_cons (pv 0) pa_nil)) pa_nil)) (pg_name (i := 3) nd rfl (by first | exact Or.inl rfl | exact Or.inr rfl)) (pss_cons (ps_set (i := 4) nd rfl (by first | exact Or.inl rfl | exact Or.inr rfl) (pe_lst (pa_cons (pv 3) pa_nil)))
      (pss_cons (ps_set (i := 5) nd rfl (by first | exact Or.inl rfl | exact Or.inr rfl) (pe_ix (ixK K) (pv 0) (pv 3) (fun _ _ => rfl)))
      (pss_cons (ps_while PassesOwn.never (PW.pt (pw_and (pt_cmpR (neK K hu) (pv 2) (pe_lst pa_nil) (nomark _)) (pw_and1 (pt_cmpR op_gt (pe_ix (ixK K) (pe_ix (ixK K) (pv 2) (pe_un un_neg pe_int) (fun _ _ => rfl)) pe_int (fun _ _ => rfl)) (pv 5) (nomark _))))) (pss_cons (ps_set (i := 4) nd rfl (by first | exact Or.inl rfl | exact Or.inr rfl) (pe_op (addK K) (pe_ix (ixK K) (pe_bm0 PySem.F.plainAttrs_list PySem.F.slot_list_pop PySem.F.type_list_pop mt_pop (pv 2)) pe_int (fun _ _ => rfl)) (pv 4)))
      (pss_one (ps_set (i := 5) nd rfl (by first | exact Or.inl rfl | exact Or.inr rfl) (pe_call (ok_median T) (hr.mono (by decide)) (by rfl) T.g_median T.F_median.kp T.b_median .nil pass0 (pa_cons (pv 0) (pa_cons (pv 1) (pa_cons (pv 4) pa_nil))))))))
      (pss_one (ps_expr (pe_bm PySem.F.plainAttrs_list PySem.F.slot_list_append PySem.F.type_list_append mt_append (pv 2) (pa_cons (pe_tup (pa_cons (pv 4) (pa_cons (pv 5) pa_nil))) pa_nil))))))))
      (pss_one (ps_ret (pv 2))))), fun ds d h => ?_⟩
  obtain ⟨ns, ws, rfl, hl, he, rfl⟩ := h
  change DS _ _ [B.im _, B.im _, B.no, B.no, B.no, B.no] _
  refine ds_seq (ds_own 2 (dao da_nil) (by decide) ?_)
  apply ds_seq
  apply ds_for (I := fun i Γ' => ∃ b3 b4 b5, Γ' = [.im (.lst (dI ns)), .im (.lst (dI ws)), .ow ((stkS ns ws i).reverse.map Bs.d), b3, b4, b5])
  · exact di_rng1 (da_cons (de_cb (da_cons (de_var rfl) da_nil) rc_lenL) da_nil) (by rw [List.length_map]; omega)
  · exact ⟨_, _, _, rfl⟩
  · rintro i d Γ' hd ⟨b3, b4, b5, rfl⟩
    obtain ⟨hi, rfl⟩ := map_get 0 hd
    rw [List.length_range, List.length_map] at hi
    have ei : (List.range (dI ns).length).getD i 0 = i := by
      rw [List.getD_eq_getElem?_getD, List.getElem?_range (by rw [List.length_map]; exact hi)]
      rfl
    rw [ei]
    refine ⟨_, dg_name _ trivial, ?_⟩
    apply ds_seq
    apply ds_asg (d := .lst (dI [(i : Int)]))
    · apply deo
      show DE _ _ _ (.lst [.int (i : Int)])
      walk_at "de"
    apply ds_seq
    apply ds_asg (d := .int (ns.getD i 0))
    · exact deo (de_op (de_var rfl) (de_var rfl) (r2_ixN hi))
    apply ds_cutP (fun Γ' => ∃ (r : List Bs) (ps : List Int) (l : Int), Γ' = [.im (.lst (dI ns)), .im (.lst (dI ws)), .ow (r.reverse.map Bs.d), .im (.int (i : Int)), .im (.lst (dI ps)), .im (.int l)] ∧ ⟨ps, l⟩ :: r = stkS ns ws (i + 1))
    · apply ds_while (fun m Γ' => ∃ (r : List Bs) (ps : List Int) (l : Int), Γ' = [.im (.lst (dI ns)), .im (.lst (dI ws)), .ow (r.reverse.map Bs.d), .im (.int (i : Int)), .im (.lst (dI ps)), .im (.int l)] ∧ mrgS ns ws r ps l = stkS ns ws (i + 1) ∧ m = r.length ∧ AllP ns.length r ∧ Pls ns.length ps ∧ totS r + ps.length ≤ 63) (stkS ns ws i).length
      · exact ⟨stkS ns ws i, [(i : Int)], ns.getD i 0, rfl, rfl, rfl, stkS_all i (by omega), one_pls hi, by rw [stkS_tot]; show i + 1 ≤ 63; omega⟩
      · rintro m Γ' ⟨r, ps, l, rfl, h1, rfl, hr, hc, ht⟩
        cases r with
        | nil =>
          refine ⟨false, dto_fz ?_, (fun hb => by cases hb), fun _ => ⟨[], ps, l, rfl, h1⟩⟩
          walk_at "fz"
          exact dt_and (x := false) (y := false) (dt_test (de_op (de_var rfl) (de_lst da_nil (by decide)) (r2_neNilS (xs := []) K))) fun z => by cases z
        | cons b r =>
          have hb := hr b List.mem_cons_self
          have htb : totS (b :: r) = b.ps.length + totS r := by
            unfold totS
            rw [List.map_cons, List.sum_cons]
          refine ⟨decide (l < b.l), dto_fz ?_, fun hx => ?_, fun hx => ?_⟩
          · walk_at "fz"
            refine' dt_is _ _
            rotate_left
            · exact dt_and (dt_test (de_op (de_var rfl) (de_lst da_nil (by decide)) (r2_neNilS (xs := (b :: r).reverse) K))) fun _ => dt_test (de_op (de_op (de_op (de_var rfl) (de_un de_int r1_neg) (r2_ixL (lastS_d r b))) de_int (r2_ixT rfl)) (de_var rfl) r2_gt)
            · rw [List.isEmpty_reverse]
              rfl
          · have hx' := of_decide_eq_true hx
            rw [revS_d]
            apply ds_seq
            refine ds_popcat (ds := r.reverse.map Bs.d) (ps := dI b.ps) (qs := dI ps) (z := .int b.l) 2 4 (by decide) rfl rfl (by rw [List.length_map, List.length_map]; omega) ?_
            have ea : dI b.ps ++ dI ps = dI (b.ps ++ ps) := List.map_append.symm
            rw [ea]
            apply ds_asg (d := .int (med ns ws (b.ps ++ ps)))
            · exact deo (de_call (da_cons (de_var rfl) (da_cons (de_var rfl) (da_cons (de_var rfl) da_nil))) (c_median hl he (by rw [List.length_append]; omega) (hb.1.app hc)) rfl)
            · refine ⟨r.length, by rw [List.length_cons]; omega, r, b.ps ++ ps, _, rfl, ?_, rfl, fun y hy => hr y (List.mem_cons_of_mem _ hy), hb.1.app hc, ?_⟩
              · rw [← h1]
                show _ = (if l < b.l then mrgS ns ws r (b.ps ++ ps) (med ns ws (b.ps ++ ps)) else ⟨ps, l⟩ :: b :: r)
                rw [if_pos hx']
              · rw [List.length_append]
                omega
          · refine ⟨b :: r, ps, l, rfl, ?_⟩
            rw [← h1]
            show _ = (if l < b.l then mrgS ns ws r (b.ps ++ ps) (med ns ws (b.ps ++ ps)) else ⟨ps, l⟩ :: b :: r)
            rw [if_neg (of_decide_eq_false hx)]
    · rintro Γ' ⟨r, ps, l, rfl, h1⟩
      have ht := stkS_tot ns ws (i + 1)
      have hlen : (stkS ns ws (i + 1)).length ≤ 64 := by
        have hb := stkS_all (ws := ws) (i + 1) (show i + 1 ≤ ns.length by omega)
        have : ∀ L : List Bs, AllP ns.length L → L.length ≤ totS L := fun L => by
          induction L with
          | nil => exact fun _ => Nat.le_refl _
          | cons x L ih =>
            intro h
            have h1 := ih fun b hb => h b (List.mem_cons_of_mem _ hb)
            have h2 := List.length_pos_iff.mpr (h x List.mem_cons_self).2
            unfold totS at *
            rw [List.map_cons, List.sum_cons, List.length_cons]
            omega
        have := this _ hb
        omega
      rw [← h1] at hlen
      apply ds_app (d := Bs.d ⟨ps, l⟩) 2 rfl
      · apply deo
        unfold Bs.d
        walk_at "de"
      · rw [List.length_map, List.length_reverse]
        rw [List.length_cons] at hlen
        omega
      · have e : r.reverse.map Bs.d ++ [Bs.d ⟨ps, l⟩] = (stkS ns ws (i + 1)).reverse.map Bs.d := by rw [← revS_d, h1]
        rw [e]
        exact ⟨_, _, _, rfl⟩
  · rintro Γ' ⟨b3, b4, b5, rfl⟩
    rw [List.length_map, List.length_range, List.length_map]
    refine ds_give 2 rfl ?_
    exact ds_ret (deo (de_var rfl)) rfl
theorem c_pooled {ns ws : List Int} (hl : ns.length ≤ 63) (he : ws.length = ns.length) : R_pooled [.lst (dI ns), .lst (dI ws)] (.lst ((stkS ns ws ns.length).reverse.map Bs.d)) := ⟨_, _, rfl, hl, he, rfl⟩
end
end U

namespace U
open PySem PySem.Spec PyProof.Rows L2 DL
section
variable {P : Program} {w : World} {K : PySem.W.Frag} {mg : Str → Option Value} {base : Heap}
local macro_rules | `(tactic| walk_at "lk") => `(tactic| first | with_reducible exact look_hit | ((with_reducible refine look_miss (by decide +kernel) ?_); walk_at "lk") | with_reducible exact look_nil)
local macro_rules | `(tactic| walk_at "fz") => `(tactic| simp only [fz, fzB, chF, Ch.d, List.map, List.set])
local macro_rules | `(tactic| walk_at "ob") => `(tactic| first
  | ((with_reducible show look _ _ = _); walk_at "lk")
  | with_reducible apply de_callO | ((with_reducible show B.d _ = _); rfl) | ((with_reducible apply de_either1); (with_reducible apply de_meth); exact de_var rfl) | ((with_reducible apply de_either2); (with_reducible apply de_meth); exact de_var rfl)
  | with_reducible exact de_cls | with_reducible apply de_fld | with_reducible apply rc_isC | with_reducible apply de_meth
  | walk_at "cl")
local macro_rules | `(tactic| walk_at "r2") => `(tactic| (fail_if_success (with_reducible show R2D _ _ D.non _ _)); (fail_if_success (with_reducible show R2D _ _ _ D.non _)); first
  | exact r2_add | exact r2_sub | exact r2_lt | exact r2_le | exact r2_gt | exact r2_ge
  | with_reducible exact r2_p30 | with_reducible exact r2_p9
  | with_reducible apply r2_mod | with_reducible apply r2_fdiv | with_reducible apply r2_mul | with_reducible apply r2_pow | with_reducible apply r2_cat | with_reducible apply r2_rep1
  | exact r2_ixT rfl | exact r2_ixL rfl | with_reducible apply r2_ixN | with_reducible apply r2_ixI
  | exact r2_eqI | exact r2_neI | exact r2_eqB | exact r2_neB | exact r2_eqL | exact r2_neL | exact r2_isB | exact r2_notB)
local macro_rules | `(tactic| walk_at "rc") => `(tactic| (fail_if_success (with_reducible show RCD _ _ [D.non] _)); (fail_if_success (with_reducible show RCD _ _ [D.non, _] _)); (fail_if_success (with_reducible show RCD _ _ [_, D.non] _)); first
  | with_reducible exact rc_srt
  | exact rc_abs | exact rc_max2 | exact rc_min2 | exact rc_sum | exact rc_all | exact rc_any | exact rc_lenL | exact rc_lenT | exact rc_listL | exact rc_listT
  | with_reducible apply rc_int | with_reducible apply rc_bool | with_reducible apply rc_list | with_reducible apply rc_tuple)
local macro_rules | `(tactic| walk_at "d1") => `(tactic| first
  | with_reducible exact de_int | with_reducible exact de_bl | with_reducible exact de_non | exact de_var rfl
  | with_reducible exact da_nil | with_reducible apply da_cons
  | with_reducible apply de_op | with_reducible apply de_un | with_reducible apply de_cb | with_reducible apply de_call
  | with_reducible apply de_tup | with_reducible apply de_lst
  | with_reducible apply de_andV | with_reducible apply de_orV | with_reducible apply de_notV | ((with_reducible show _ = true → _); intro _) | ((with_reducible show _ = false → _); intro _)
  | with_reducible apply dt_and | with_reducible apply dt_or | with_reducible apply dt_not | with_reducible apply dt_test | with_reducible apply dt_B
  | with_reducible apply de_slice | with_reducible exact do_none | with_reducible apply do_some | with_reducible apply de_rev
  | with_reducible apply de_maxD | with_reducible apply de_chain3 | with_reducible apply de_chain
  | walk_at "r2" | walk_at "rc" | walk_at "ob"
  | ((with_reducible show R1D _ _ (D.int _) _); exact r1_neg)
  | with_reducible exact de_ty
  | with_reducible exact ne_int | with_reducible exact ne_lst | with_reducible exact ne_tup | with_reducible exact ne_bl
  | ((with_reducible show List.length _ = _); rfl) | ((with_reducible show List.length _ + 1 = _); rfl)
  | (with_reducible show List.length _ ≤ 1000); exact Nat.le_of_ble_eq_true rfl)
local macro_rules | `(tactic| walk_at "dg") => `(tactic| repeat' (first | exact dg_name _ trivial | exact dg_name _ (by decide) | with_reducible exact dg_nil | with_reducible apply dg_cons | with_reducible apply dg_tup | ((with_reducible show List.length _ = _); rfl)))
local macro_rules | `(tactic| walk_at "de") => `(tactic| repeat' walk_at "d1")
local macro_rules | `(tactic| walk_at "ret") => `(tactic| (apply ds_ret; apply deo; walk_at "de"))
local macro_rules | `(tactic| walk_at "asg") => `(tactic| (apply ds_seq; apply ds_asg; apply deo; walk_at "de"))
local macro_rules | `(tactic| walk_at "drop") => `(tactic| (apply ds_seq; apply ds_drop; apply deo; walk_at "de"))
local macro_rules | `(tactic| walk_at "par") => `(tactic| (apply ds_seq; apply ds_par; apply dao; walk_at "de"))
local macro_rules | `(tactic| walk_at "parG") => `(tactic| (apply ds_seq; apply ds_asgG; apply deo; walk_at "de"; walk_at "dg"))
local macro_rules | `(tactic| walk_at "lc") => `(tactic| first | with_reducible exact lookC_hit | with_reducible exact lookC_nil | ((with_reducible refine lookC_miss (by decide +kernel) ?_); walk_at "lc"))
local macro_rules | `(tactic| walk_at "pc") => `(tactic| first | with_reducible exact putC_hit | with_reducible exact putC_nil | ((with_reducible apply putC_miss); (decide +kernel); (walk_at "pc")))
local macro_rules | `(tactic| walk_at "cl") => `(tactic| first | with_reducible exact Tx.c_Band _ | with_reducible exact Tx.i_Band _ | with_reducible exact Tx.n_Band_lows _ | with_reducible exact Tx.n_Band_highs _ | with_reducible exact Tx.c_Barred _ | with_reducible exact Tx.i_Barred _ | with_reducible exact Tx.n_Barred_first _ | with_reducible exact Tx.n_Barred_second _ | with_reducible exact Tx.c_Evened _ | with_reducible exact Tx.i_Evened _ | with_reducible exact Tx.n_Evened_row _ | with_reducible exact Tx.n_Evened_first _ | with_reducible exact Tx.n_Evened_second _ | with_reducible exact Tx.c_Squared _ | with_reducible exact Tx.i_Squared _ | with_reducible exact Tx.n_Squared_row _ | with_reducible exact Tx.c_Summed _ | with_reducible exact Tx.i_Summed _ | with_reducible exact Tx.n_Summed_row _ | with_reducible exact Tx.n_Summed_pulls _ | with_reducible exact Tx.is_Band_Barred _ | with_reducible exact Tx.is_Band_Evened _ | with_reducible exact Tx.is_Band_Squared _ | with_reducible exact Tx.is_Band_Summed _ | with_reducible exact Tx.is_Barred_Band _ | with_reducible exact Tx.is_Barred_Evened _ | with_reducible exact Tx.is_Barred_Squared _ | with_reducible exact Tx.is_Barred_Summed _ | with_reducible exact Tx.is_Evened_Band _ | with_reducible exact Tx.is_Evened_Barred _ | with_reducible exact Tx.is_Evened_Squared _ | with_reducible exact Tx.is_Evened_Summed _ | with_reducible exact Tx.is_Squared_Band _ | with_reducible exact Tx.is_Squared_Barred _ | with_reducible exact Tx.is_Squared_Evened _ | with_reducible exact Tx.is_Squared_Summed _ | with_reducible exact Tx.is_Summed_Band _ | with_reducible exact Tx.is_Summed_Barred _ | with_reducible exact Tx.is_Summed_Evened _ | with_reducible exact Tx.is_Summed_Squared _| with_reducible exact (Tx.i_Band _).me | with_reducible exact (Tx.i_Barred _).me | with_reducible exact (Tx.i_Evened _).me | with_reducible exact (Tx.i_Squared _).me | with_reducible exact (Tx.i_Summed _).me)
local macro_rules | `(tactic| walk_at "d1") => `(tactic| first | exact c_common | with_reducible apply c_is_number)
local macro_rules | `(tactic| walk_at "d1") => `(tactic| with_reducible apply c_lowest)
local macro_rules | `(tactic| walk_at "d1") => `(tactic| with_reducible apply c_are_numbers)
local macro_rules | `(tactic| walk_at "d1") => `(tactic| with_reducible apply c_check_numbers)
local macro_rules | `(tactic| walk_at "d1") => `(tactic| with_reducible apply c_check_row)
local macro_rules | `(tactic| walk_at "d1") => `(tactic| with_reducible apply c_check_weights)
local macro_rules | `(tactic| walk_at "d1") => `(tactic| with_reducible apply c_greatest_of)
local macro_rules | `(tactic| walk_at "d1") => `(tactic| with_reducible apply c_sum_of)
local macro_rules | `(tactic| walk_at "d1") => `(tactic| first | with_reducible apply c_greatest | with_reducible apply c_summed_up | with_reducible exact c_is_fraction)
local macro_rules | `(tactic| walk_at "d1") => `(tactic| first | with_reducible exact c__law_whole2 | with_reducible apply c__law_whole)
local macro_rules | `(tactic| walk_at "d1") => `(tactic| with_reducible first | exact div21 | exact div3 | exact div2 | exact div5 | exact div7 | exact div30 | exact div230 | exact pos21 | exact pos2 | exact pos3 | exact pos5 | exact pos7 | exact pos9 | exact pos12 | exact posE30 | exact posE9 | exact mul2 | exact mul2l | exact mul3l)
local macro_rules | `(tactic| walk_at "d1") => `(tactic| first | with_reducible apply c__law_numbers | with_reducible apply c__law_weights)
local macro_rules | `(tactic| walk_at "d1") => `(tactic| with_reducible apply c_rises)
local macro_rules | `(tactic| walk_at "d1") => `(tactic| with_reducible apply c_highest_so_far)
local macro_rules | `(tactic| walk_at "d1") => `(tactic| with_reducible apply c_worst_places)
local macro_rules | `(tactic| walk_at "d1") => `(tactic| with_reducible apply c_Evened_shows)
local macro_rules | `(tactic| walk_at "d1") => `(tactic| with_reducible apply c__law_rises)
local macro_rules | `(tactic| walk_at "d1") => `(tactic| first | with_reducible apply c__law_even | with_reducible apply c__law_whole | with_reducible exact c__law_whole2)
local macro_rules | `(tactic| walk_at "d1") => `(tactic| first | with_reducible apply c_Band_shows | with_reducible exact c_Barred_shows)
/-! ### pulls -/
def wIf (ns ws ps : List Int) (f : Int → Bool) : Int := ((ps.filter fun p => f (nAt ns p)).map (nAt ws)).sum
def pullStep (ns ws : List Int) (l : Int) (s : (Int × Int) × List Int) (p : Int) : (Int × Int) × List Int :=
  if nAt ns p = l then ((s.1.1 - nAt ws p, s.1.2 - minI (nAt ws p) (s.1.2 + (s.1.1 - nAt ws p))), s.2 ++ [minI (nAt ws p) (s.1.2 + (s.1.1 - nAt ws p))])
  else (s.1, s.2 ++ [if nAt ns p < l then -nAt ws p else nAt ws p])
def pull0 (ns ws ps : List Int) (l : Int) : (Int × Int) × List Int := ((wIf ns ws ps fun n => decide (n = l), wIf ns ws ps (fun n => decide (n < l)) - wIf ns ws ps fun n => decide (l < n)), [])
def pullsOf (ns ws ps : List Int) (l : Int) : List Int := (ps.foldl (pullStep ns ws l) (pull0 ns ws ps l)).2
theorem pull_len (ns ws : List Int) (l : Int) : ∀ (ps : List Int) (s : (Int × Int) × List Int), (ps.foldl (pullStep ns ws l) s).2.length = s.2.length + ps.length
  | [], s => rfl
  | p :: r, s => by
    rw [List.foldl_cons, pull_len ns ws l r, List.length_cons]
    unfold pullStep
    split <;> rw [List.length_append, List.length_singleton] <;> omega
def R_pulls_of (ds : List D) (d : D) : Prop := ∃ (ns ws ps : List Int) (l : Int), ds = [.lst (dI ns), .lst (dI ws), .lst (dI ps), .int l] ∧ ns.length ≤ 63 ∧ ws.length = ns.length ∧ ps.length ≤ 1000 ∧ Pls ns.length ps ∧ d = .lst (dI (pullsOf ns ws ps l))
theorem de_wIf {wi : TI} {g : TG} {tt : TT} {te : TE} {vs : List Nat} {Γ : List B} {ns ws ps : List Int} (f : Int → Bool) (hi : DI K wi Γ (dI ps)) (hl : ps.length ≤ 1000) (h : ∀ p ∈ ps, ∃ Γ', DG K g (· ∈ vs) (.int p) (wipeB Γ vs) Γ' ∧ DT K tt Γ' (f (nAt ns p)) ∧ (f (nAt ns p) = true → DE K te Γ' (.int (nAt ws p)))) :
    DE K (tLc wi g tt te vs) Γ (.lst (dI ((ps.filter fun p => f (nAt ns p)).map (nAt ws)))) := de_lcIF (nAt ws) (fun p => f (nAt ns p)) (xs := ps) (enc := D.int) hi (by omega) h
theorem ok_pulls_of (T : Tx K mg base) : FnOk P w K mg base CX0 1 T.a_pulls_of T.d_pulls_of ["numbers", "weights", "places", "level"] (spR K 4 R_pulls_of) := by
  refine pure_ok T.F_pulls_of sc_pulls_of rfl (fun cdv A outer s H E hr => ?_)
  have nd := sc_pulls_of.nd
  have hu := hr.units
  refine ⟨_, (pss_cons (ps_set (i := 4) nd rfl (by first | exact Or.inl rfl | exact Or.inr rfl) (pe_callB (sumK K rfl) (by rfl) T.m_sum bt_sum (pa_cons (pe_lc (own := [("at", 7)]) (g := (gName 7)) rfl nd (pi_listK K (pv 2)) (blkOk_by (own := [("at", 7)]) (N := N_pulls_of) (sc := defScope s_pulls_of) (by decide +kernel)) (fun _ _ _ _ _ => (pg_name (i := 7) nd rfl (by first | exact Or.inl rfl | exact Or.inr rfl))) (fun _ _ _ _ _ => (pts_one (pt_cmpR (eqK K hu) (pe_ix (ixK K) (pv 0) (pv 7) (fun _ _ => rfl)) (pv 3) (nomark _)))) (fun _ _ _ _ _ => (pe_ix (ixK K) (pv 1) (pv 7) (fun _ _ => rfl)))) pa_nil)))
      (pss_cons (ps_set (i := 5) nd rfl (by first | exact Or.inl rfl | exact Or.inr rfl) (pe_callB (sumK K rfl) (by rfl) T.m_sum bt_sum (pa_cons (pe_lc (own := [("at", 7)]) (g := (gName 7)) rfl nd (pi_listK K (pv 2)) (blkOk_by (own := [("at", 7)]) (N := N_pulls_of) (sc := defScope s_pulls_of) (by decide +kernel)) (fun _ _ _ _ _ => (pg_name (i := 7) nd rfl (by first | exact Or.inl rfl | exact Or.inr rfl))) (fun _ _ _ _ _ => (pts_one (pt_cmpR op_lt (pe_ix (ixK K) (pv 0) (pv 7) (fun _ _ => rfl)) (pv 3) (nomark _)))) (fun _ _ _ _ _ => (pe_ix (ixK K) (pv 1) (pv 7) (fun _ _ => rfl)))) pa_nil)))
      (pss_cons (ps_set (i := 5) nd rfl (by first | exact Or.inl rfl | exact Or.inr rfl) (pe_op op_sub (pv 5) (pe_callB (sumK K rfl) (by rfl) T.m_sum bt_sum (pa_cons (pe_lc (own := [("at", 7)]) (g := (gName 7)) rfl nd (pi_listK K (pv 2)) (blkOk_by (own := [("at", 7)]) (N := N_pulls_of) (sc := defScope s_pulls_of) (by decide +kernel)) (fun _ _ _ _ _ => (pg_name (i := 7) nd rfl (by first | exact Or.inl rfl | exact Or.inr rfl))) (fun _ _ _ _ _ => (pts_one (pt_cmpR op_gt (pe_ix (ixK K) (pv 0) (pv 7) (fun _ _ => rfl)) (pv 3) (nomark _)))) (fun _ _ _ _ _ => (pe_ix (ixK K) (pv 1) (pv 7) (fun _ _ => rfl)))) pa_nil))))
      (pss_cons (ps_set (i := 6) nd rfl (by first | exact Or.inl rfl | exact Or.inr rfl) (pe_lst pa_nil))
      (pss_cons (ps_for PassesOwn.never rfl (pi_listK K (pv 2)) (pg_name (i := 7) nd rfl (by first | exact Or.inl rfl | exact Or.inr rfl)) (pss_cons (ps_set (i := 8) nd rfl (by first | exact Or.inl rfl | exact Or.inr rfl) (pe_ix (ixK K) (pv 1) (pv 7) (fun _ _ => rfl)))
      (pss_cons (ps_if (pt_cmpR op_lt (pe_ix (ixK K) (pv 0) (pv 7) (fun _ _ => rfl)) (pv 3) (nomark _)) (pss_one (ps_set (i := 8) nd rfl (by first | exact Or.inl rfl | exact Or.inr rfl) (pe_un un_neg (pe_ix (ixK K) (pv 1) (pv 7) (fun _ _ => rfl))))) pss_nil)
      (pss_cons (ps_if (pt_cmpR (eqK K hu) (pe_ix (ixK K) (pv 0) (pv 7) (fun _ _ => rfl)) (pv 3) (nomark _)) (pss_cons (ps_set (i := 4) nd rfl (by first | exact Or.inl rfl | exact Or.inr rfl) (pe_op op_sub (pv 4) (pe_ix (ixK K) (pv 1) (pv 7) (fun _ _ => rfl))))
      (pss_cons (ps_set (i := 8) nd rfl (by first | exact Or.inl rfl | exact Or.inr rfl) (pe_callB (call_min2 rfl) (by rfl) T.m_min bt_min (pa_cons (pe_ix (ixK K) (pv 1) (pv 7) (fun _ _ => rfl)) (pa_cons (pe_op (addK K) (pv 5) (pv 4)) pa_nil))))
      (pss_one (ps_set (i := 5) nd rfl (by first | exact Or.inl rfl | exact Or.inr rfl) (pe_op op_sub (pv 5) (pv 8)))))) pss_nil)
      (pss_one (ps_expr (pe_bm PySem.F.plainAttrs_list PySem.F.slot_list_append PySem.F.type_list_append mt_append (pv 6) (pa_cons (pv 8) pa_nil))))))))
      (pss_one (ps_ret (pv 6)))))))), fun ds d h => ?_⟩
  obtain ⟨ns, ws, ps, l, rfl, hl, he, hpl, hps, rfl⟩ := h
  change DS _ _ [B.im _, B.im _, B.im _, B.im _, B.no, B.no, B.no, B.no, B.no] _
  have hw : ∀ p ∈ ps, 0 ≤ p ∧ p < (ws.length : Int) := fun p hp => by
    have := hps p hp
    omega
  apply ds_seq
  apply ds_asg (d := .int (wIf ns ws ps fun n => decide (n = l)))
  · refine deo (de_cb (da_cons (de_wIf (fun n => decide (n = l)) (di_list (de_var rfl)) hpl fun p hp => ⟨_, dg_name _ (by decide), ?_, fun _ => ?_⟩) da_nil) rc_sum)
    · exact dt_test (de_op (de_op (de_var rfl) (de_var rfl) (r2_pl (hps p hp))) (de_var rfl) r2_eqI)
    · exact de_op (de_var rfl) (de_var rfl) (r2_pl (hw p hp))
  apply ds_seq
  apply ds_asg (d := .int (wIf ns ws ps fun n => decide (n < l)))
  · refine deo (de_cb (da_cons (de_wIf (fun n => decide (n < l)) (di_list (de_var rfl)) hpl fun p hp => ⟨_, dg_name _ (by decide), ?_, fun _ => ?_⟩) da_nil) rc_sum)
    · exact dt_test (de_op (de_op (de_var rfl) (de_var rfl) (r2_pl (hps p hp))) (de_var rfl) r2_lt)
    · exact de_op (de_var rfl) (de_var rfl) (r2_pl (hw p hp))
  apply ds_seq
  apply ds_asg (d := .int (wIf ns ws ps (fun n => decide (n < l)) - wIf ns ws ps fun n => decide (l < n)))
  · refine deo (de_op (de_var rfl) (de_cb (da_cons (de_wIf (fun n => decide (l < n)) (di_list (de_var rfl)) hpl fun p hp => ⟨_, dg_name _ (by decide), ?_, fun _ => ?_⟩) da_nil) rc_sum) r2_sub)
    · exact dt_test (de_op (de_op (de_var rfl) (de_var rfl) (r2_pl (hps p hp))) (de_var rfl) r2_gt)
    · exact de_op (de_var rfl) (de_var rfl) (r2_pl (hw p hp))
  refine ds_seq (ds_own 6 (dao da_nil) (by decide) ?_)
  apply ds_seq
  apply ds_for (I := fun i Γ' => ∃ b7 b8, Γ' = [.im (.lst (dI ns)), .im (.lst (dI ws)), .im (.lst (dI ps)), .im (.int l), .im (.int ((ps.take i).foldl (pullStep ns ws l) (pull0 ns ws ps l)).1.1), .im (.int ((ps.take i).foldl (pullStep ns ws l) (pull0 ns ws ps l)).1.2), .ow (dI ((ps.take i).foldl (pullStep ns ws l) (pull0 ns ws ps l)).2), b7, b8])
  · exact di_list (de_var rfl)
  · exact ⟨_, _, rfl⟩
  · rintro i d Γ' hd ⟨b7, b8, rfl⟩
    obtain ⟨hi, rfl⟩ := map_get 0 hd
    have hm := getD_mem (z := 0) hi
    have hp := hps _ hm
    have hpw := hw _ hm
    have fs := foldl_take (d := 0) (pullStep ns ws l) (pull0 ns ws ps l) hi
    have ll := pull_len ns ws l (ps.take i) (pull0 ns ws ps l)
    rw [fs]
    generalize ps.getD i 0 = p at *
    generalize (ps.take i).foldl (pullStep ns ws l) (pull0 ns ws ps l) = s at *
    have hsl : (dI s.2).length ≤ 100000 := by
      rw [List.length_map, ll, List.length_take]
      show 0 + _ ≤ _
      omega
    refine ⟨_, dg_name _ trivial, ?_⟩
    apply ds_seq
    apply ds_asg (d := .int (nAt ws p))
    · exact deo (de_op (de_var rfl) (de_var rfl) (r2_pl hpw))
    apply ds_cut [.im (.lst (dI ns)), .im (.lst (dI ws)), .im (.lst (dI ps)), .im (.int l), .im (.int s.1.1), .im (.int s.1.2), .ow (dI s.2), .im (.int p), .im (.int (if nAt ns p < l then -nAt ws p else nAt ws p))]
    · apply ds_if (b := decide (nAt ns p < l))
      · exact dto (dt_test (de_op (de_op (de_var rfl) (de_var rfl) (r2_pl hp)) (de_var rfl) r2_lt))
      · intro hb
        rw [if_pos (of_decide_eq_true hb)]
        exact ds_asg _ (deo (de_un (de_op (de_var rfl) (de_var rfl) (r2_pl hpw)) r1_neg)) rfl
      · intro hb
        rw [if_neg (of_decide_eq_false hb)]
        exact ds_next rfl
    apply ds_cut [.im (.lst (dI ns)), .im (.lst (dI ws)), .im (.lst (dI ps)), .im (.int l), .im (.int (pullStep ns ws l s p).1.1), .im (.int (pullStep ns ws l s p).1.2), .ow (dI s.2), .im (.int p), .im (.int (if nAt ns p = l then minI (nAt ws p) (s.1.2 + (s.1.1 - nAt ws p)) else if nAt ns p < l then -nAt ws p else nAt ws p))]
    · unfold pullStep
      apply ds_if (b := decide (nAt ns p = l))
      · exact dto (dt_test (de_op (de_op (de_var rfl) (de_var rfl) (r2_pl hp)) (de_var rfl) r2_eqI))
      · intro hb
        have hb' := of_decide_eq_true hb
        rw [if_pos hb', if_pos hb']
        apply ds_seq
        apply ds_asg (d := .int (s.1.1 - nAt ws p))
        · exact deo (de_op (de_var rfl) (de_op (de_var rfl) (de_var rfl) (r2_pl hpw)) r2_sub)
        apply ds_seq
        apply ds_asg (d := .int (minI (nAt ws p) (s.1.2 + (s.1.1 - nAt ws p))))
        · exact deo (de_cb (da_cons (de_op (de_var rfl) (de_var rfl) (r2_pl hpw)) (da_cons (de_op (de_var rfl) (de_var rfl) r2_add) da_nil)) rc_min2)
        exact ds_asg _ (deo (de_op (de_var rfl) (de_var rfl) r2_sub)) rfl
      · intro hb
        have hb' := of_decide_eq_false hb
        rw [if_neg hb', if_neg hb']
        exact ds_next rfl
    · apply ds_app (d := .int (if nAt ns p = l then minI (nAt ws p) (s.1.2 + (s.1.1 - nAt ws p)) else if nAt ns p < l then -nAt ws p else nAt ws p)) 6 rfl
      · exact deo (de_var rfl)
      · exact hsl
      · have e : dI s.2 ++ [D.int (if nAt ns p = l then minI (nAt ws p) (s.1.2 + (s.1.1 - nAt ws p)) else if nAt ns p < l then -nAt ws p else nAt ws p)] = dI (pullStep ns ws l s p).2 := by
          rw [← dI_snoc]
          unfold pullStep
          split <;> rfl
        rw [e]
        exact ⟨_, _, rfl⟩
  · rintro Γ' ⟨b7, b8, rfl⟩
    rw [List.length_map, List.take_length]
    refine ds_give 6 rfl ?_
    exact ds_ret (deo (de_var rfl)) rfl
theorem c_pulls_of {ns ws ps : List Int} {l : Int} (hl : ns.length ≤ 63) (he : ws.length = ns.length) (hp : ps.length ≤ 1000) (hps : Pls ns.length ps) : R_pulls_of [.lst (dI ns), .lst (dI ws), .lst (dI ps), .int l] (.lst (dI (pullsOf ns ws ps l))) := ⟨_, _, _, _, rfl, hl, he, hp, hps, rfl⟩
/-! ### summed -/
abbrev suF (x y : D) : List (Str × D) := [("row", x), ("pulls", y)]
abbrev suC (xs ys : List D) : List (Str × Ch) := [("row", .ow xs), ("pulls", .ow ys)]
def R_Summed___init__ (ds : List D) (fs : List (Str × Ch)) : Prop := ∃ xs ys, ds = [.lst xs, .lst ys] ∧ fs = suC xs ys
theorem ok_Summed___init__ (T : Tx K mg base) : FnOk P w K mg base CX0 1 T.a_Summed___init__ T.d_Summed___init__ ["self", "row", "pulls"] (spI K T.C_Summed 2 R_Summed___init__) := by
  refine pure_okI T.F_Summed___init__ sc_Summed___init__ rfl (by decide) (fun cdv A outer s H E hr => ?_)
  have nd := sc_Summed___init__.nd
  have hu := hr.units
  refine ⟨_, (pss_cons (ps_fldK K (pv 0) (pe_callTy (listK K) (by rfl) T.m_list bt_list (pa_cons (pv 1) pa_nil)) rfl)
      (pss_one (ps_fldK K (pv 0) (pe_callTy (listK K) (by rfl) T.m_list bt_list (pa_cons (pv 2) pa_nil)) rfl))), fun p ds fs h => ?_⟩
  obtain ⟨xs, ys, rfl, rfl⟩ := h
  change DS _ _ (B.oo _ _ [] :: [B.im _, B.im _]) _
  apply ds_seq
  apply ds_fldI (c := .ow xs) 0
  · rfl
  · exact T.c_Summed
  · exact T.n_Summed_row
  · walk_at "lc"
  · exact Nat.le_of_ble_eq_true rfl
  · walk_at "pc"
  · exact dxo (dx_list (da_cons (de_var rfl) da_nil))
  apply ds_fldI (c := .ow ys) 0
  · rfl
  · exact T.c_Summed
  · exact T.n_Summed_pulls
  · walk_at "lc"
  · exact Nat.le_of_ble_eq_true rfl
  · walk_at "pc"
  · exact dxo (dx_list (da_cons (de_var rfl) da_nil))
  rfl
theorem c_Summed___init__ {xs ys : List D} : R_Summed___init__ [.lst xs, .lst ys] (suC xs ys) := ⟨_, _, rfl, rfl⟩
def rowL (L : List Bs) : List Int := (L.map fun b => List.replicate b.ps.length b.l).flatten
def pullL (ns ws : List Int) (L : List Bs) : List Int := (L.map fun b => pullsOf ns ws b.ps b.l).flatten
def rowS (ns ws : List Int) : List Int := rowL (stkS ns ws ns.length).reverse
def pullS (ns ws : List Int) : List Int := pullL ns ws (stkS ns ws ns.length).reverse
theorem rowL_len (L : List Bs) : (rowL L).length = totS L := by
  unfold rowL totS
  induction L with
  | nil => rfl
  | cons b L ih => rw [List.map_cons, List.flatten_cons, List.length_append, ih, List.map_cons, List.sum_cons, List.length_replicate]
theorem pullL_len (ns ws : List Int) (L : List Bs) : (pullL ns ws L).length = totS L := by
  unfold pullL totS
  induction L with
  | nil => rfl
  | cons b L ih =>
    rw [List.map_cons, List.flatten_cons, List.length_append, ih, List.map_cons, List.sum_cons]
    unfold pullsOf
    rw [pull_len]
    show 0 + _ + _ = _
    omega
theorem totS_rev (L : List Bs) : totS L.reverse = totS L := by
  unfold totS
  rw [List.map_reverse, List.sum_reverse]
theorem totS_take (L : List Bs) (k : Nat) : totS (L.take k) ≤ totS L := by
  have e : totS L = totS (L.take k) + totS (L.drop k) := by
    unfold totS
    rw [← List.sum_append, ← List.map_append, List.take_append_drop]
  omega
theorem totS_mem {r : List Bs} {b : Bs} (h : b ∈ r) : b.ps.length ≤ totS r := by
  unfold totS
  induction r with
  | nil => cases h
  | cons x r ih =>
    rw [List.map_cons, List.sum_cons]
    rcases List.mem_cons.mp h with h | h
    · rw [h]
      omega
    · have := ih h
      omega
def R_summed (C : Addr) (ds : List D) (b : B) : Prop := ∃ ns ws : List Int, ds = [.lst (dI ns), .lst (dI ws)] ∧ ns.length ≤ 63 ∧ ws.length = ns.length ∧ Wts ws ∧ b = .oo none C (suC (dI (rowS ns ws)) (dI (pullS ns ws)))
theorem rowL_app (A C : List Bs) : rowL (A ++ C) = rowL A ++ rowL C := by
  unfold rowL
  rw [List.map_append, List.flatten_append]
theorem pullL_app (ns ws : List Int) (A C : List Bs) : pullL ns ws (A ++ C) = pullL ns ws A ++ pullL ns ws C := by
  unfold pullL
  rw [List.map_append, List.flatten_append]
theorem ok_summed (T : Tx K mg base) : FnOk P w K mg base CX0 4 T.a_summed T.d_summed ["numbers", "weights"] (spO K 2 (R_summed T.C_Summed)) := by
  refine pure_okO T.F_summed sc_summed rfl (fun cdv A outer s H E hr => ?_)
  have nd := sc_summed.nd
  have hu := hr.units
  refine ⟨_, (pss_cons (ps_expr (pe_call (ok_check_numbers T) (hr.mono (by decide)) (by rfl) T.g_check_numbers T.F_check_numbers.kp T.b_check_numbers .nil pass0 (pa_cons (pv 0) pa_nil)))
      (pss_cons (ps_expr (pe_call (ok_check_weights T) (hr.mono (by decide)) (by rfl) T.g_check_weights T.F_check_weights.kp T.b_check_weights .nil pass0 (pa_cons (pv 0) (pa_cons (pv 1) pa_nil))))
      (pss_cons (ps_set (i := 2) nd rfl (by first | exact Or.inl rfl | exact Or.inr rfl) (pe_lst pa_nil))
      (pss_cons (ps_set (i := 3) nd rfl (by first | exact Or.inl rfl | exact Or.inr rfl) (pe_lst pa_nil))
      (pss_cons (ps_for PassesOwn.never rfl (pi_listK K (pe_call (ok_pooled T) (hr.mono (by decide)) (by rfl) T.g_pooled T.F_pooled.kp T.b_pooled .nil pass0 (pa_cons (pv 0) (pa_cons (pv 1) pa_nil)))) (pg_tupK (n := 2) K rfl (pgs_cons (pg_name (i := 4) nd rfl (by first | exact Or.inl rfl | exact Or.inr rfl)) (pgs_cons (pg_name (i := 5) nd rfl (by first | exact Or.inl rfl | exact Or.inr rfl)) pgs_nil))) (pss_cons (ps_expr (pe_bm PySem.F.plainAttrs_list PySem.F.slot_list_extend PySem.F.type_list_extend (extK K) (pv 2) (pa_cons (pe_op (mulK K) (pe_lst (pa_cons (pv 5) pa_nil)) (pe_callB (lenK K) (by rfl) T.m_len bt_len (pa_cons (pv 4) pa_nil))) pa_nil)))
      (pss_one (ps_expr (pe_bm PySem.F.plainAttrs_list PySem.F.slot_list_extend PySem.F.type_list_extend (extK K) (pv 3) (pa_cons (pe_call (ok_pulls_of T) (hr.mono (by decide)) (by rfl) T.g_pulls_of T.F_pulls_of.kp T.b_pulls_of .nil pass0 (pa_cons (pv 0) (pa_cons (pv 1) (pa_cons (pv 4) (pa_cons (pv 5) pa_nil))))) pa_nil))))))
      (pss_one (ps_ret (pe_make T.k_Summed (ok_Summed___init__ T) (hr.mono (by decide)) (by rfl) T.g_Summed T.b_Summed___init__ .nil pass0 (pa_cons (pv 2) (pa_cons (pv 3) pa_nil)))))))))), fun ds d h => ?_⟩
  obtain ⟨ns, ws, rfl, hl, he, hw, rfl⟩ := h
  change DS _ _ [B.im _, B.im _, B.no, B.no, B.no, B.no] _
  walk_at "drop"
  · omega
  walk_at "drop"
  · omega
  · exact he
  · exact hw
  refine ds_seq (ds_own 2 (dao da_nil) (by decide) ?_)
  refine ds_seq (ds_own 3 (dao da_nil) (by decide) ?_)
  apply ds_seq
  apply ds_for (I := fun k Γ' => ∃ b4 b5, Γ' = [.im (.lst (dI ns)), .im (.lst (dI ws)), .ow (dI (rowL ((stkS ns ws ns.length).reverse.take k))), .ow (dI (pullL ns ws ((stkS ns ws ns.length).reverse.take k))), b4, b5])
  · exact di_list (de_call (da_cons (de_var rfl) (da_cons (de_var rfl) da_nil)) (c_pooled hl he) rfl)
  · exact ⟨_, _, rfl⟩
  · rintro k d Γ' hd ⟨b4, b5, rfl⟩
    have htot := stkS_tot ns ws ns.length
    have hall := stkS_all (ns := ns) (ws := ws) ns.length (Nat.le_refl _)
    generalize hL : (stkS ns ws ns.length).reverse = L at *
    have hLt : totS L = ns.length := by rw [← hL, totS_rev, htot]
    have hLb : AllP ns.length L := fun b hb => hall b (by rw [← hL] at hb; exact List.mem_reverse.mp hb)
    obtain ⟨hk, rfl⟩ := map_get (⟨[], 0⟩ : Bs) hd
    have hm : L.getD k ⟨[], 0⟩ ∈ L := getD_mem hk
    have hb := hLb _ hm
    have hbt := totS_mem hm
    have tk : L.take (k + 1) = L.take k ++ [L.getD k ⟨[], 0⟩] := by
      rw [List.take_succ, List.getElem?_eq_getElem hk, List.getD_eq_getElem?_getD, List.getElem?_eq_getElem hk]
      rfl
    have tt := totS_take L k
    generalize L.getD k ⟨[], 0⟩ = b at *
    have e1 : dI (rowL (L.take k)) ++ dI (List.replicate b.ps.length b.l) = dI (rowL (L.take (k + 1))) := by
      rw [tk, rowL_app]
      unfold rowL dI
      rw [List.map_append, List.map_singleton, List.flatten_singleton]
    have e2 : dI (pullL ns ws (L.take k)) ++ dI (pullsOf ns ws b.ps b.l) = dI (pullL ns ws (L.take (k + 1))) := by
      rw [tk, pullL_app]
      unfold pullL dI
      rw [List.map_append, List.map_singleton, List.flatten_singleton]
    refine ⟨_, show DG _ _ _ (.tup [.lst (dI b.ps), .int b.l]) _ _ from dg_tup (dg_cons (dg_name _ trivial) (dg_cons (dg_name _ trivial) dg_nil)) rfl, ?_⟩
    apply ds_seq
    apply ds_ext (es := dI (List.replicate b.ps.length b.l)) 2 rfl
    · apply deo
      have q := de_op (K := K) (Γ := [.im (.lst (dI ns)), .im (.lst (dI ws)), .ow (dI (rowL (L.take k))), .ow (dI (pullL ns ws (L.take k))), .im (.lst (dI b.ps)), .im (.int b.l)]) (de_lst (da_cons (de_var (i := 5) rfl) da_nil) (Nat.le_of_ble_eq_true rfl)) (de_cb (da_cons (de_var (i := 4) rfl) da_nil) rc_lenL) (r2_rep1 (d := .int b.l) (n := (dI b.ps).length) (by rw [List.length_map]; omega))
      rw [List.length_map] at q
      unfold dI
      rw [List.map_replicate]
      exact q
    · rw [List.length_map, List.length_map, rowL_len, List.length_replicate]
      omega
    rw [e1]
    apply ds_ext (es := dI (pullsOf ns ws b.ps b.l)) 3 rfl
    · exact deo (de_call (da_cons (de_var rfl) (da_cons (de_var rfl) (da_cons (de_var rfl) (da_cons (de_var rfl) da_nil)))) (c_pulls_of hl he (by omega) hb.1) rfl)
    · rw [List.length_map, List.length_map, pullL_len]
      unfold pullsOf
      rw [pull_len]
      show _ + (0 + _) ≤ _
      omega
    rw [e2]
    exact ⟨_, _, rfl⟩
  · rintro Γ' ⟨b4, b5, rfl⟩
    rw [List.length_map, List.take_length]
    refine ds_give 2 rfl ?_
    refine ds_give 3 rfl ?_
    exact ds_retX (dxo (dx_make (da_cons (de_var rfl) (da_cons (de_var rfl) da_nil)) c_Summed___init__ rfl)) rfl
theorem c_summed {C : Addr} {ns ws : List Int} (hl : ns.length ≤ 63) (he : ws.length = ns.length) (hw : Wts ws) : R_summed C [.lst (dI ns), .lst (dI ws)] (.oo none C (suC (dI (rowS ns ws)) (dI (pullS ns ws)))) := ⟨_, _, rfl, hl, he, hw, rfl⟩
end
end U

namespace U
open PySem PySem.Spec PyProof.Rows L2 DL
section
variable {P : Program} {w : World} {K : PySem.W.Frag} {mg : Str → Option Value} {base : Heap}
local macro_rules | `(tactic| walk_at "lk") => `(tactic| first | with_reducible exact look_hit | ((with_reducible refine look_miss (by decide +kernel) ?_); walk_at "lk") | with_reducible exact look_nil)
local macro_rules | `(tactic| walk_at "fz") => `(tactic| simp only [fz, fzB, chF, Ch.d, List.map, List.set])
local macro_rules | `(tactic| walk_at "ob") => `(tactic| first
  | ((with_reducible show look _ _ = _); walk_at "lk")
  | with_reducible apply de_callO | ((with_reducible show B.d _ = _); rfl) | ((with_reducible apply de_either1); (with_reducible apply de_meth); exact de_var rfl) | ((with_reducible apply de_either2); (with_reducible apply de_meth); exact de_var rfl)
  | with_reducible exact de_cls | with_reducible apply de_fld | with_reducible apply rc_isC | with_reducible apply de_meth
  | walk_at "cl")
local macro_rules | `(tactic| walk_at "r2") => `(tactic| (fail_if_success (with_reducible show R2D _ _ D.non _ _)); (fail_if_success (with_reducible show R2D _ _ _ D.non _)); first
  | exact r2_add | exact r2_sub | exact r2_lt | exact r2_le | exact r2_gt | exact r2_ge
  | with_reducible exact r2_p30 | with_reducible exact r2_p9
  | with_reducible apply r2_mod | with_reducible apply r2_fdiv | with_reducible apply r2_mul | with_reducible apply r2_pow | with_reducible apply r2_cat | with_reducible apply r2_rep1
  | exact r2_ixT rfl | exact r2_ixL rfl | with_reducible apply r2_ixN | with_reducible apply r2_ixI
  | exact r2_eqI | exact r2_neI | exact r2_eqB | exact r2_neB | exact r2_eqL | exact r2_neL | exact r2_isB | exact r2_notB)
local macro_rules | `(tactic| walk_at "rc") => `(tactic| (fail_if_success (with_reducible show RCD _ _ [D.non] _)); (fail_if_success (with_reducible show RCD _ _ [D.non, _] _)); (fail_if_success (with_reducible show RCD _ _ [_, D.non] _)); first
  | with_reducible exact rc_srt
  | exact rc_abs | exact rc_max2 | exact rc_min2 | exact rc_sum | exact rc_all | exact rc_any | exact rc_lenL | exact rc_lenT | exact rc_listL | exact rc_listT
  | with_reducible apply rc_int | with_reducible apply rc_bool | with_reducible apply rc_list | with_reducible apply rc_tuple)
local macro_rules | `(tactic| walk_at "d1") => `(tactic| first
  | with_reducible exact de_int | with_reducible exact de_bl | with_reducible exact de_non | exact de_var rfl
  | with_reducible exact da_nil | with_reducible apply da_cons
  | with_reducible apply de_op | with_reducible apply de_un | with_reducible apply de_cb | with_reducible apply de_call
  | with_reducible apply de_tup | with_reducible apply de_lst
  | with_reducible apply de_andV | with_reducible apply de_orV | with_reducible apply de_notV | ((with_reducible show _ = true → _); intro _) | ((with_reducible show _ = false → _); intro _)
  | with_reducible apply dt_and | with_reducible apply dt_or | with_reducible apply dt_not | with_reducible apply dt_test | with_reducible apply dt_B
  | with_reducible apply de_slice | with_reducible exact do_none | with_reducible apply do_some | with_reducible apply de_rev
  | with_reducible apply de_maxD | with_reducible apply de_chain3 | with_reducible apply de_chain
  | walk_at "r2" | walk_at "rc" | walk_at "ob"
  | ((with_reducible show R1D _ _ (D.int _) _); exact r1_neg)
  | with_reducible exact de_ty
  | with_reducible exact ne_int | with_reducible exact ne_lst | with_reducible exact ne_tup | with_reducible exact ne_bl
  | ((with_reducible show List.length _ = _); rfl) | ((with_reducible show List.length _ + 1 = _); rfl)
  | (with_reducible show List.length _ ≤ 1000); exact Nat.le_of_ble_eq_true rfl)
local macro_rules | `(tactic| walk_at "dg") => `(tactic| repeat' (first | exact dg_name _ trivial | exact dg_name _ (by decide) | with_reducible exact dg_nil | with_reducible apply dg_cons | with_reducible apply dg_tup | ((with_reducible show List.length _ = _); rfl)))
local macro_rules | `(tactic| walk_at "de") => `(tactic| repeat' walk_at "d1")
local macro_rules | `(tactic| walk_at "ret") => `(tactic| (apply ds_ret; apply deo; walk_at "de"))
local macro_rules | `(tactic| walk_at "asg") => `(tactic| (apply ds_seq; apply ds_asg; apply deo; walk_at "de"))
local macro_rules | `(tactic| walk_at "drop") => `(tactic| (apply ds_seq; apply ds_drop; apply deo; walk_at "de"))
local macro_rules | `(tactic| walk_at "par") => `(tactic| (apply ds_seq; apply ds_par; apply dao; walk_at "de"))
local macro_rules | `(tactic| walk_at "parG") => `(tactic| (apply ds_seq; apply ds_asgG; apply deo; walk_at "de"; walk_at "dg"))
local macro_rules | `(tactic| walk_at "lc") => `(tactic| first | with_reducible exact lookC_hit | with_reducible exact lookC_nil | ((with_reducible refine lookC_miss (by decide +kernel) ?_); walk_at "lc"))
local macro_rules | `(tactic| walk_at "pc") => `(tactic| first | with_reducible exact putC_hit | with_reducible exact putC_nil | ((with_reducible apply putC_miss); (decide +kernel); (walk_at "pc")))
local macro_rules | `(tactic| walk_at "cl") => `(tactic| first | with_reducible exact Tx.c_Band _ | with_reducible exact Tx.i_Band _ | with_reducible exact Tx.n_Band_lows _ | with_reducible exact Tx.n_Band_highs _ | with_reducible exact Tx.c_Barred _ | with_reducible exact Tx.i_Barred _ | with_reducible exact Tx.n_Barred_first _ | with_reducible exact Tx.n_Barred_second _ | with_reducible exact Tx.c_Evened _ | with_reducible exact Tx.i_Evened _ | with_reducible exact Tx.n_Evened_row _ | with_reducible exact Tx.n_Evened_first _ | with_reducible exact Tx.n_Evened_second _ | with_reducible exact Tx.c_Squared _ | with_reducible exact Tx.i_Squared _ | with_reducible exact Tx.n_Squared_row _ | with_reducible exact Tx.c_Summed _ | with_reducible exact Tx.i_Summed _ | with_reducible exact Tx.n_Summed_row _ | with_reducible exact Tx.n_Summed_pulls _ | with_reducible exact Tx.is_Band_Barred _ | with_reducible exact Tx.is_Band_Evened _ | with_reducible exact Tx.is_Band_Squared _ | with_reducible exact Tx.is_Band_Summed _ | with_reducible exact Tx.is_Barred_Band _ | with_reducible exact Tx.is_Barred_Evened _ | with_reducible exact Tx.is_Barred_Squared _ | with_reducible exact Tx.is_Barred_Summed _ | with_reducible exact Tx.is_Evened_Band _ | with_reducible exact Tx.is_Evened_Barred _ | with_reducible exact Tx.is_Evened_Squared _ | with_reducible exact Tx.is_Evened_Summed _ | with_reducible exact Tx.is_Squared_Band _ | with_reducible exact Tx.is_Squared_Barred _ | with_reducible exact Tx.is_Squared_Evened _ | with_reducible exact Tx.is_Squared_Summed _ | with_reducible exact Tx.is_Summed_Band _ | with_reducible exact Tx.is_Summed_Barred _ | with_reducible exact Tx.is_Summed_Evened _ | with_reducible exact Tx.is_Summed_Squared _| with_reducible exact (Tx.i_Band _).me | with_reducible exact (Tx.i_Barred _).me | with_reducible exact (Tx.i_Evened _).me | with_reducible exact (Tx.i_Squared _).me | with_reducible exact (Tx.i_Summed _).me)
local macro_rules | `(tactic| walk_at "d1") => `(tactic| first | exact c_common | with_reducible apply c_is_number)
local macro_rules | `(tactic| walk_at "d1") => `(tactic| with_reducible apply c_lowest)
local macro_rules | `(tactic| walk_at "d1") => `(tactic| with_reducible apply c_are_numbers)
local macro_rules | `(tactic| walk_at "d1") => `(tactic| with_reducible apply c_check_numbers)
local macro_rules | `(tactic| walk_at "d1") => `(tactic| with_reducible apply c_check_row)
local macro_rules | `(tactic| walk_at "d1") => `(tactic| with_reducible apply c_check_weights)
local macro_rules | `(tactic| walk_at "d1") => `(tactic| with_reducible apply c_greatest_of)
local macro_rules | `(tactic| walk_at "d1") => `(tactic| with_reducible apply c_sum_of)
local macro_rules | `(tactic| walk_at "d1") => `(tactic| first | with_reducible apply c_greatest | with_reducible apply c_summed_up | with_reducible exact c_is_fraction)
local macro_rules | `(tactic| walk_at "d1") => `(tactic| first | with_reducible exact c__law_whole2 | with_reducible apply c__law_whole)
local macro_rules | `(tactic| walk_at "d1") => `(tactic| with_reducible first | exact div21 | exact div3 | exact div2 | exact div5 | exact div7 | exact div30 | exact div230 | exact pos21 | exact pos2 | exact pos3 | exact pos5 | exact pos7 | exact pos9 | exact pos12 | exact posE30 | exact posE9 | exact mul2 | exact mul2l | exact mul3l)
local macro_rules | `(tactic| walk_at "d1") => `(tactic| first | with_reducible apply c__law_numbers | with_reducible apply c__law_weights)
local macro_rules | `(tactic| walk_at "d1") => `(tactic| with_reducible apply c_rises)
local macro_rules | `(tactic| walk_at "d1") => `(tactic| with_reducible apply c_highest_so_far)
local macro_rules | `(tactic| walk_at "d1") => `(tactic| with_reducible apply c_worst_places)
local macro_rules | `(tactic| walk_at "d1") => `(tactic| with_reducible apply c_Evened_shows)
local macro_rules | `(tactic| walk_at "d1") => `(tactic| with_reducible apply c__law_rises)
local macro_rules | `(tactic| walk_at "d1") => `(tactic| first | with_reducible apply c__law_even | with_reducible apply c__law_whole | with_reducible exact c__law_whole2)
local macro_rules | `(tactic| walk_at "d1") => `(tactic| first | with_reducible apply c_Band_shows | with_reducible exact c_Barred_shows)
/-! ## what a row and pulls show -/
def psum (us : List Int) (i : Nat) : Int := (us.take i).sum
theorem psum_succ {us : List Int} {i : Nat} (h : i < us.length) : psum us (i + 1) = psum us i + us.getD i 0 := by
  unfold psum
  rw [List.take_succ, List.getElem?_eq_getElem h, List.sum_append, List.getD_eq_getElem?_getD, List.getElem?_eq_getElem h]
  simp
theorem psum_all (us : List Int) : psum us us.length = us.sum := by
  unfold psum
  rw [List.take_length]
structure SumP (ns ws rs us : List Int) : Prop where
  lr : rs.length = ns.length
  lu : us.length = ns.length
  up : up rs = true
  pl : ∀ i, i < ns.length → -ws.getD i 0 ≤ us.getD i 0 ∧ us.getD i 0 ≤ ws.getD i 0
  pos : ∀ i, i < ns.length → 0 ≤ psum us (i + 1)
  nil : us.sum = 0
  told : ((List.range ns.length).map fun i => us.getD i 0 * ns.getD i 0).sum = costS ns rs ws
noncomputable instance {ns ws rs us : List Int} : Decidable (SumP ns ws rs us) := Classical.propDecidable _
noncomputable def sumOk (ns ws rs us : List Int) : Bool := decide (SumP ns ws rs us)
theorem sum_no {ns ws rs us : List Int} (h : ¬ SumP ns ws rs us) : D.bl false = D.bl (sumOk ns ws rs us) := by
  unfold sumOk
  rw [decide_eq_false h]
theorem sum_yes {ns ws rs us : List Int} (h : SumP ns ws rs us) : sumOk ns ws rs us = true := by
  unfold sumOk
  rw [decide_eq_true h]
theorem sum_is {ns ws rs us : List Int} {b : Bool} (h : b = true ↔ SumP ns ws rs us) : D.bl b = D.bl (sumOk ns ws rs us) := by
  unfold sumOk
  cases b with
  | true => rw [decide_eq_true (h.mp rfl)]
  | false => rw [decide_eq_false fun z => by have := h.mpr z; cases this]
structure FromP (us : List Int) : Prop where
  pos : ∀ i, i < us.length → 0 ≤ psum us (i + 1)
  nil : us.sum = 0
noncomputable instance {us : List Int} : Decidable (FromP us) := Classical.propDecidable _
noncomputable def fromOk (us : List Int) : Bool := decide (FromP us)
def R_from_nought (ds : List D) (d : D) : Prop := ∃ us : List Int, ds = [.lst (dI us)] ∧ us.length ≤ 1000 ∧ d = .bl (fromOk us)
theorem ok_from_nought (T : Tx K mg base) : FnOk P w K mg base CX0 1 T.a_from_nought T.d_from_nought ["pulls"] (spR K 1 R_from_nought) := by
  refine pure_ok T.F_from_nought sc_from_nought rfl (fun cdv A outer s H E hr => ?_)
  have nd := sc_from_nought.nd
  have hu := hr.units
  refine ⟨_, (pss_cons (ps_set (i := 1) nd rfl (by first | exact Or.inl rfl | exact Or.inr rfl) pe_int)
      (pss_cons (ps_for PassesOwn.never rfl (pi_listK K (pv 0)) (pg_name (i := 2) nd rfl (by first | exact Or.inl rfl | exact Or.inr rfl)) (pss_cons (ps_set (i := 1) nd rfl (by first | exact Or.inl rfl | exact Or.inr rfl) (pe_op (addK K) (pv 1) (pv 2)))
      (pss_one (ps_if (pt_cmpR op_lt (pv 1) pe_int (nomark _)) (pss_one (ps_ret pe_bl)) pss_nil))))
      (pss_one (ps_ret (pe_cmpR (eqK K hu) (pv 1) pe_int (nomark _)))))), fun ds d h => ?_⟩
  obtain ⟨us, rfl, hl, rfl⟩ := h
  change DS _ _ [B.im _, B.no, B.no] _
  walk_at "asg"
  apply ds_seq
  apply ds_for (I := fun i Γ' => (∃ b2, Γ' = [.im (.lst (dI us)), .im (.int (psum us i)), b2]) ∧ ∀ j, j < i → 0 ≤ psum us (j + 1))
  · exact di_list (de_var rfl)
  · exact ⟨⟨_, rfl⟩, fun j hj => by omega⟩
  · rintro i d Γ' hd ⟨⟨b2, rfl⟩, hI⟩
    obtain ⟨hi, rfl⟩ := map_get 0 hd
    refine ⟨_, dg_name _ trivial, ?_⟩
    apply ds_seq
    apply ds_asg (d := .int (psum us (i + 1)))
    · rw [psum_succ hi]
      exact deo (de_op (de_var rfl) (de_var rfl) r2_add)
    apply ds_if (b := decide (psum us (i + 1) < 0))
    · exact dto (dt_test (de_op (de_var rfl) de_int r2_lt))
    · intro hb
      have hb' := of_decide_eq_true hb
      walk_at "ret"
      show D.bl false = D.bl (fromOk us)
      unfold fromOk
      rw [decide_eq_false]
      intro z
      have := z.pos i hi
      omega
    · intro hb
      have hb' := of_decide_eq_false hb
      refine ds_next ⟨⟨_, rfl⟩, fun j hj => ?_⟩
      by_cases e : j = i
      · subst e
        omega
      · exact hI j (by omega)
  · rintro Γ' ⟨⟨b2, rfl⟩, hI⟩
    rw [List.length_map] at hI ⊢
    walk_at "ret"
    show D.bl _ = D.bl (fromOk us)
    unfold fromOk
    rw [psum_all]
    congr 1
    rw [Bool.eq_iff_iff, decide_eq_true_eq, decide_eq_true_eq]
    exact ⟨fun h => ⟨hI, h⟩, fun h => h.nil⟩
theorem c_from_nought {us : List Int} (h : us.length ≤ 1000) : R_from_nought [.lst (dI us)] (.bl (fromOk us)) := ⟨_, rfl, h, rfl⟩
local macro_rules | `(tactic| walk_at "d1") => `(tactic| with_reducible apply c_from_nought)
structure SmIn (ns ws us : List Int) : Prop where
  l : ns.length ≤ 63
  e : ws.length = ns.length
  w : Wts ws
  n : ∀ n ∈ ns, Fit 1048580 n
  u : ∀ u ∈ us, Fit 200 u
theorem SmIn.mul {ns ws us : List Int} (h : SmIn ns ws us) {i : Nat} (hi : i < ns.length) (hu : us.length = ns.length) : CMulX (us.getD i 0) (ns.getD i 0) :=
  (h.u _ (getD_mem (by omega))).mulok (h.n _ (getD_mem hi)) (by decide)
theorem all_map {n : Nat} {f : Nat → Bool} : ((List.range n).map f).all id = true ↔ ∀ i, i < n → f i = true := by
  rw [List.all_map, List.all_eq_true]
  exact ⟨fun h i hi => h i (List.mem_range.mpr hi), fun h i hi => h i (List.mem_range.mp hi)⟩
def R_Summed_shows (C : Addr) (ds : List D) (d : D) : Prop := ∃ ns ws rs us : List Int, ds = [.ins C (suF (.lst (dI rs)) (.lst (dI us))), .lst (dI ns), .lst (dI ws)] ∧ SmIn ns ws us ∧ rs.length ≤ 1000 ∧ us.length ≤ 1000 ∧ d = .bl (sumOk ns ws rs us)
theorem ok_Summed_shows (T : Tx K mg base) : FnOk P w K mg base CX0 2 T.a_Summed_shows T.d_Summed_shows ["self", "numbers", "weights"] (spR K 3 (R_Summed_shows T.C_Summed)) := by
  refine pure_ok T.F_Summed_shows sc_Summed_shows rfl (fun cdv A outer s H E hr => ?_)
  have nd := sc_Summed_shows.nd
  have hu := hr.units
  refine ⟨_, (pss_cons (ps_set (i := 3) nd rfl (by first | exact Or.inl rfl | exact Or.inr rfl) (pe_callB (lenK K) (by rfl) T.m_len bt_len (pa_cons (pv 1) pa_nil)))
      (pss_cons (ps_if (PW.pt (pw_or (pt_cmpR (neK K hu) (pe_callB (lenK K) (by rfl) T.m_len bt_len (pa_cons (fldK K (pv 0) rfl) pa_nil)) (pv 3) (nomark _)) (pw_or (pt_cmpR (neK K hu) (pe_callB (lenK K) (by rfl) T.m_len bt_len (pa_cons (fldK K (pv 0) rfl) pa_nil)) (pv 3) (nomark _)) (pw_or (pt_not (pt_val (pe_call (ok_rises T) (hr.mono (by decide)) (by rfl) T.g_rises T.F_rises.kp T.b_rises .nil pass0 (pa_cons (fldK K (pv 0) rfl) pa_nil)))) (pw_or1 (pt_not (pt_val (pe_call (ok_from_nought T) (hr.mono (by decide)) (by rfl) T.g_from_nought T.F_from_nought.kp T.b_from_nought .nil pass0 (pa_cons (fldK K (pv 0) rfl) pa_nil))))))))) (pss_one (ps_ret pe_bl)) pss_nil)
      (pss_cons (ps_if (pt_not (pt_val (pe_callB (allK K rfl) (by rfl) T.m_all bt_all (pa_cons (pe_lc (own := [("at", 5)]) (g := (gName 5)) (tt := tYes) rfl nd (pi_range1 (by rfl) T.m_range (pa_cons (pv 3) pa_nil)) (blkOk_by (own := [("at", 5)]) (N := N_Summed_shows) (sc := defScope s_Summed_shows) (by decide +kernel)) (fun _ _ _ _ _ => (pg_name (i := 5) nd rfl (by first | exact Or.inl rfl | exact Or.inr rfl))) (fun _ _ _ _ _ => pts_nil) (fun _ _ _ _ _ => (pe_cmpR op_le (pe_callB call_abs (by rfl) T.m_abs bt_abs (pa_cons (pe_ix (ixK K) (fldK K (pv 0) rfl) (pv 5) (fun _ _ => rfl)) pa_nil)) (pe_ix (ixK K) (pv 2) (pv 5) (fun _ _ => rfl)) (nomark _)))) pa_nil)))) (pss_one (ps_ret pe_bl)) pss_nil)
      (pss_cons (ps_set (i := 4) nd rfl (by first | exact Or.inl rfl | exact Or.inr rfl) (pe_callB (sumK K rfl) (by rfl) T.m_sum bt_sum (pa_cons (pe_lc (own := [("at", 5)]) (g := (gName 5)) (tt := tYes) rfl nd (pi_range1 (by rfl) T.m_range (pa_cons (pv 3) pa_nil)) (blkOk_by (own := [("at", 5)]) (N := N_Summed_shows) (sc := defScope s_Summed_shows) (by decide +kernel)) (fun _ _ _ _ _ => (pg_name (i := 5) nd rfl (by first | exact Or.inl rfl | exact Or.inr rfl))) (fun _ _ _ _ _ => pts_nil) (fun _ _ _ _ _ => (pe_op (mulK K) (pe_ix (ixK K) (fldK K (pv 0) rfl) (pv 5) (fun _ _ => rfl)) (pe_ix (ixK K) (pv 1) (pv 5) (fun _ _ => rfl))))) pa_nil)))
      (pss_one (ps_ret (pe_cmpR (eqK K hu) (pv 4) (pe_call (ok_sum_of T) (hr.mono (by decide)) (by rfl) T.g_sum_of T.F_sum_of.kp T.b_sum_of .nil pass0 (pa_cons (pv 1) (pa_cons (fldK K (pv 0) rfl) (pa_cons (pv 2) pa_nil)))) (nomark _)))))))), fun ds d h => ?_⟩
  obtain ⟨ns, ws, rs, us, rfl, hS, hr, hu, rfl⟩ := h
  change DS _ _ [B.im _, B.im _, B.im _, B.no, B.no, B.no] _
  have h63 := hS.l
  have hwe := hS.e
  unfold suF
  apply ds_seq
  apply ds_asg (d := .int ns.length)
  · apply deo
    refine' de_is _ _
    rotate_left
    · walk_at "de"
    · rw [List.length_map]
  apply ds_seq
  apply ds_if
  · apply dto
    walk_at "de"
    · exact hr
    · exact hu
  · intro hb
    walk_at "ret"
    refine sum_no fun z => ?_
    have hf : fromOk us = true := by
      unfold fromOk
      exact decide_eq_true ⟨fun i hi => z.pos i (by rw [← z.lu]; exact hi), z.nil⟩
    simp [z.lr, z.lu, z.up, hf] at hb
  intro hb
  apply ds_next
  simp at hb
  obtain ⟨⟨h1, h2⟩, h3, h4⟩ : (rs.length = ns.length ∧ us.length = ns.length) ∧ up rs = true ∧ fromOk us = true := ⟨⟨by omega, by omega⟩, by simp [hb], by simp [hb]⟩
  have hF : FromP us := by
    unfold fromOk at h4
    exact of_decide_eq_true h4
  apply ds_seq
  apply ds_if (b := !(((List.range ns.length).map fun i => decide (absI (us.getD i 0) ≤ ws.getD i 0)).all id))
  · refine dto (dt_not (dt_test (de_cb (da_cons ?_ da_nil) rc_all)))
    apply de_lcB (fun i : Nat => decide (absI (us.getD i 0) ≤ ws.getD i 0)) (di_rng1 (da_cons (de_var rfl) da_nil) (by omega)) (by rw [List.length_range]; omega)
    intro x hx
    have hx' := List.mem_range.mp hx
    refine ⟨_, dg_name _ (by decide), ?_⟩
    walk_at "de"
    · omega
    · omega
  · intro hb
    walk_at "ret"
    refine sum_no fun z => ?_
    rw [Bool.not_eq_true'] at hb
    refine Bool.eq_false_iff.mp hb (all_map.mpr fun i hi => decide_eq_true ?_)
    have := z.pl i hi
    unfold absI
    split <;> omega
  intro hb
  rw [Bool.not_eq_false'] at hb
  apply ds_next
  apply ds_seq
  apply ds_asg (d := .int ((List.range ns.length).map fun i => us.getD i 0 * ns.getD i 0).sum)
  · refine deo (de_cb (da_cons ?_ da_nil) rc_sum)
    apply de_lcI (fun i : Nat => us.getD i 0 * ns.getD i 0) (di_rng1 (da_cons (de_var rfl) da_nil) (by omega)) (by rw [List.length_range]; omega)
    intro x hx
    have hx' := List.mem_range.mp hx
    refine ⟨_, dg_name _ (by decide), ?_⟩
    walk_at "de"
    · omega
    · exact hx'
    · exact hS.mul hx' h2
  apply ds_ret (d := .bl (decide (((List.range ns.length).map fun i => us.getD i 0 * ns.getD i 0).sum = costS ns rs ws)))
  · apply deo
    walk_at "de"
    all_goals first | omega | exact h1 | exact hwe | exact hS.w | exact r2_eqI
  · refine sum_is ?_
    rw [decide_eq_true_eq]
    refine ⟨fun h => ⟨h1, h2, h3, fun i hi => ?_, fun i hi => hF.pos i (by omega), hF.nil, h⟩, fun h => h.told⟩
    have := of_decide_eq_true (all_map.mp hb i hi)
    unfold absI at this
    split at this <;> omega
theorem c_Summed_shows {C : Addr} {ns ws rs us : List Int} (h : SmIn ns ws us) (hr : rs.length ≤ 1000) (hu : us.length ≤ 1000) : R_Summed_shows C [.ins C (suF (.lst (dI rs)) (.lst (dI us))), .lst (dI ns), .lst (dI ws)] (.bl (sumOk ns ws rs us)) := ⟨_, _, _, _, rfl, h, hr, hu, rfl⟩
end
end U

namespace U
open PySem PySem.Spec PyProof.Rows L2 DL
section
variable {P : Program} {w : World} {K : PySem.W.Frag} {mg : Str → Option Value} {base : Heap}
local macro_rules | `(tactic| walk_at "lk") => `(tactic| first | with_reducible exact look_hit | ((with_reducible refine look_miss (by decide +kernel) ?_); walk_at "lk") | with_reducible exact look_nil)
local macro_rules | `(tactic| walk_at "fz") => `(tactic| simp only [fz, fzB, chF, Ch.d, List.map, List.set])
local macro_rules | `(tactic| walk_at "ob") => `(tactic| first
  | ((with_reducible show look _ _ = _); walk_at "lk")
  | with_reducible apply de_callO | ((with_reducible show B.d _ = _); rfl) | ((with_reducible apply de_either1); (with_reducible apply de_meth); exact de_var rfl) | ((with_reducible apply de_either2); (with_reducible apply de_meth); exact de_var rfl)
  | with_reducible exact de_cls | with_reducible apply de_fld | with_reducible apply rc_isC | with_reducible apply de_meth
  | walk_at "cl")
local macro_rules | `(tactic| walk_at "r2") => `(tactic| (fail_if_success (with_reducible show R2D _ _ D.non _ _)); (fail_if_success (with_reducible show R2D _ _ _ D.non _)); first
  | exact r2_add | exact r2_sub | exact r2_lt | exact r2_le | exact r2_gt | exact r2_ge
  | with_reducible exact r2_p30 | with_reducible exact r2_p9
  | with_reducible apply r2_mod | with_reducible apply r2_fdiv | with_reducible apply r2_mul | with_reducible apply r2_pow | with_reducible apply r2_cat | with_reducible apply r2_rep1
  | exact r2_ixT rfl | exact r2_ixL rfl | with_reducible apply r2_ixN | with_reducible apply r2_ixI
  | exact r2_eqI | exact r2_neI | exact r2_eqB | exact r2_neB | exact r2_eqL | exact r2_neL | exact r2_isB | exact r2_notB)
local macro_rules | `(tactic| walk_at "rc") => `(tactic| (fail_if_success (with_reducible show RCD _ _ [D.non] _)); (fail_if_success (with_reducible show RCD _ _ [D.non, _] _)); (fail_if_success (with_reducible show RCD _ _ [_, D.non] _)); first
  | with_reducible exact rc_srt
  | exact rc_abs | exact rc_max2 | exact rc_min2 | exact rc_sum | exact rc_all | exact rc_any | exact rc_lenL | exact rc_lenT | exact rc_listL | exact rc_listT
  | with_reducible apply rc_int | with_reducible apply rc_bool | with_reducible apply rc_list | with_reducible apply rc_tuple)
local macro_rules | `(tactic| walk_at "d1") => `(tactic| first
  | with_reducible exact de_int | with_reducible exact de_bl | with_reducible exact de_non | exact de_var rfl
  | with_reducible exact da_nil | with_reducible apply da_cons
  | with_reducible apply de_op | with_reducible apply de_un | with_reducible apply de_cb | with_reducible apply de_call
  | with_reducible apply de_tup | with_reducible apply de_lst
  | with_reducible apply de_andV | with_reducible apply de_orV | with_reducible apply de_notV | ((with_reducible show _ = true → _); intro _) | ((with_reducible show _ = false → _); intro _)
  | with_reducible apply dt_and | with_reducible apply dt_or | with_reducible apply dt_not | with_reducible apply dt_test | with_reducible apply dt_B
  | with_reducible apply de_slice | with_reducible exact do_none | with_reducible apply do_some | with_reducible apply de_rev
  | with_reducible apply de_maxD | with_reducible apply de_chain3 | with_reducible apply de_chain
  | walk_at "r2" | walk_at "rc" | walk_at "ob"
  | ((with_reducible show R1D _ _ (D.int _) _); exact r1_neg)
  | with_reducible exact de_ty
  | with_reducible exact ne_int | with_reducible exact ne_lst | with_reducible exact ne_tup | with_reducible exact ne_bl
  | ((with_reducible show List.length _ = _); rfl) | ((with_reducible show List.length _ + 1 = _); rfl)
  | (with_reducible show List.length _ ≤ 1000); exact Nat.le_of_ble_eq_true rfl)
local macro_rules | `(tactic| walk_at "dg") => `(tactic| repeat' (first | exact dg_name _ trivial | exact dg_name _ (by decide) | with_reducible exact dg_nil | with_reducible apply dg_cons | with_reducible apply dg_tup | ((with_reducible show List.length _ = _); rfl)))
local macro_rules | `(tactic| walk_at "de") => `(tactic| repeat' walk_at "d1")
local macro_rules | `(tactic| walk_at "ret") => `(tactic| (apply ds_ret; apply deo; walk_at "de"))
local macro_rules | `(tactic| walk_at "asg") => `(tactic| (apply ds_seq; apply ds_asg; apply deo; walk_at "de"))
local macro_rules | `(tactic| walk_at "drop") => `(tactic| (apply ds_seq; apply ds_drop; apply deo; walk_at "de"))
local macro_rules | `(tactic| walk_at "par") => `(tactic| (apply ds_seq; apply ds_par; apply dao; walk_at "de"))
local macro_rules | `(tactic| walk_at "parG") => `(tactic| (apply ds_seq; apply ds_asgG; apply deo; walk_at "de"; walk_at "dg"))
local macro_rules | `(tactic| walk_at "lc") => `(tactic| first | with_reducible exact lookC_hit | with_reducible exact lookC_nil | ((with_reducible refine lookC_miss (by decide +kernel) ?_); walk_at "lc"))
local macro_rules | `(tactic| walk_at "pc") => `(tactic| first | with_reducible exact putC_hit | with_reducible exact putC_nil | ((with_reducible apply putC_miss); (decide +kernel); (walk_at "pc")))
local macro_rules | `(tactic| walk_at "cl") => `(tactic| first | with_reducible exact Tx.c_Band _ | with_reducible exact Tx.i_Band _ | with_reducible exact Tx.n_Band_lows _ | with_reducible exact Tx.n_Band_highs _ | with_reducible exact Tx.c_Barred _ | with_reducible exact Tx.i_Barred _ | with_reducible exact Tx.n_Barred_first _ | with_reducible exact Tx.n_Barred_second _ | with_reducible exact Tx.c_Evened _ | with_reducible exact Tx.i_Evened _ | with_reducible exact Tx.n_Evened_row _ | with_reducible exact Tx.n_Evened_first _ | with_reducible exact Tx.n_Evened_second _ | with_reducible exact Tx.c_Squared _ | with_reducible exact Tx.i_Squared _ | with_reducible exact Tx.n_Squared_row _ | with_reducible exact Tx.c_Summed _ | with_reducible exact Tx.i_Summed _ | with_reducible exact Tx.n_Summed_row _ | with_reducible exact Tx.n_Summed_pulls _ | with_reducible exact Tx.is_Band_Barred _ | with_reducible exact Tx.is_Band_Evened _ | with_reducible exact Tx.is_Band_Squared _ | with_reducible exact Tx.is_Band_Summed _ | with_reducible exact Tx.is_Barred_Band _ | with_reducible exact Tx.is_Barred_Evened _ | with_reducible exact Tx.is_Barred_Squared _ | with_reducible exact Tx.is_Barred_Summed _ | with_reducible exact Tx.is_Evened_Band _ | with_reducible exact Tx.is_Evened_Barred _ | with_reducible exact Tx.is_Evened_Squared _ | with_reducible exact Tx.is_Evened_Summed _ | with_reducible exact Tx.is_Squared_Band _ | with_reducible exact Tx.is_Squared_Barred _ | with_reducible exact Tx.is_Squared_Evened _ | with_reducible exact Tx.is_Squared_Summed _ | with_reducible exact Tx.is_Summed_Band _ | with_reducible exact Tx.is_Summed_Barred _ | with_reducible exact Tx.is_Summed_Evened _ | with_reducible exact Tx.is_Summed_Squared _| with_reducible exact (Tx.i_Band _).me | with_reducible exact (Tx.i_Barred _).me | with_reducible exact (Tx.i_Evened _).me | with_reducible exact (Tx.i_Squared _).me | with_reducible exact (Tx.i_Summed _).me)
local macro_rules | `(tactic| walk_at "d1") => `(tactic| first | exact c_common | with_reducible apply c_is_number)
local macro_rules | `(tactic| walk_at "d1") => `(tactic| with_reducible apply c_lowest)
local macro_rules | `(tactic| walk_at "d1") => `(tactic| with_reducible apply c_are_numbers)
local macro_rules | `(tactic| walk_at "d1") => `(tactic| with_reducible apply c_check_numbers)
local macro_rules | `(tactic| walk_at "d1") => `(tactic| with_reducible apply c_check_row)
local macro_rules | `(tactic| walk_at "d1") => `(tactic| with_reducible apply c_check_weights)
local macro_rules | `(tactic| walk_at "d1") => `(tactic| with_reducible apply c_greatest_of)
local macro_rules | `(tactic| walk_at "d1") => `(tactic| with_reducible apply c_sum_of)
local macro_rules | `(tactic| walk_at "d1") => `(tactic| first | with_reducible apply c_greatest | with_reducible apply c_summed_up | with_reducible exact c_is_fraction)
local macro_rules | `(tactic| walk_at "d1") => `(tactic| first | with_reducible exact c__law_whole2 | with_reducible apply c__law_whole)
local macro_rules | `(tactic| walk_at "d1") => `(tactic| with_reducible first | exact div21 | exact div3 | exact div2 | exact div5 | exact div7 | exact div30 | exact div230 | exact pos21 | exact pos2 | exact pos3 | exact pos5 | exact pos7 | exact pos9 | exact pos12 | exact posE30 | exact posE9 | exact mul2 | exact mul2l | exact mul3l)
local macro_rules | `(tactic| walk_at "d1") => `(tactic| first | with_reducible apply c__law_numbers | with_reducible apply c__law_weights)
local macro_rules | `(tactic| walk_at "d1") => `(tactic| with_reducible apply c_rises)
local macro_rules | `(tactic| walk_at "d1") => `(tactic| with_reducible apply c_highest_so_far)
local macro_rules | `(tactic| walk_at "d1") => `(tactic| with_reducible apply c_worst_places)
local macro_rules | `(tactic| walk_at "d1") => `(tactic| with_reducible apply c_Evened_shows)
local macro_rules | `(tactic| walk_at "d1") => `(tactic| with_reducible apply c__law_rises)
local macro_rules | `(tactic| walk_at "d1") => `(tactic| first | with_reducible apply c__law_even | with_reducible apply c__law_whole | with_reducible exact c__law_whole2)
local macro_rules | `(tactic| walk_at "d1") => `(tactic| first | with_reducible apply c_Band_shows | with_reducible exact c_Barred_shows)
local macro_rules | `(tactic| walk_at "d1") => `(tactic| with_reducible apply c_from_nought)
/-! ## the pooled medians cost the least -/
def pf (g : Nat → Int) : Nat → Int
  | 0 => 0
  | i + 1 => pf g i + g i
theorem pf_congr {g h : Nat → Int} {a : Nat} : ∀ {b : Nat}, a ≤ b → (∀ j, a ≤ j → j < b → g j = h j) → pf g b - pf g a = pf h b - pf h a
  | 0, ha, _ => by
    obtain rfl : a = 0 := by omega
    rfl
  | b + 1, ha, hh => by
    by_cases e : a = b + 1
    · subst e
      omega
    · have q := pf_congr (b := b) (by omega) fun j h1 h2 => hh j h1 (by omega)
      have := hh b (by omega) (by omega)
      show pf g b + g b - pf g a = pf h b + h b - pf h a
      omega
theorem pf_le {g h : Nat → Int} {a : Nat} : ∀ {b : Nat}, a ≤ b → (∀ j, a ≤ j → j < b → g j ≤ h j) → pf g b - pf g a ≤ pf h b - pf h a
  | 0, ha, _ => by
    obtain rfl : a = 0 := by omega
    exact Int.le_refl _
  | b + 1, ha, hh => by
    by_cases e : a = b + 1
    · subst e
      omega
    · have q := pf_le (b := b) (by omega) fun j h1 h2 => hh j h1 (by omega)
      have := hh b (by omega) (by omega)
      show pf g b + g b - pf g a ≤ pf h b + h b - pf h a
      omega
theorem pf_add (g h : Nat → Int) : ∀ i, pf (fun j => g j + h j) i = pf g i + pf h i
  | 0 => rfl
  | i + 1 => by
    show pf (fun j => g j + h j) i + (g i + h i) = pf g i + g i + (pf h i + h i)
    rw [pf_add g h i]
    omega
def wv (ns ws : List Int) (f : Int → Bool) (j : Nat) : Int := if f (ns.getD j 0) = true then ws.getD j 0 else 0
def S (ns ws : List Int) (f : Int → Bool) (x y : Nat) : Int := pf (wv ns ws f) y - pf (wv ns ws f) x
abbrev lt (v : Int) : Int → Bool := fun n => decide (n < v)
abbrev le (v : Int) : Int → Bool := fun n => decide (n ≤ v)
abbrev gt (v : Int) : Int → Bool := fun n => decide (v < n)
abbrev ge (v : Int) : Int → Bool := fun n => decide (v ≤ n)
abbrev eq (v : Int) : Int → Bool := fun n => decide (n = v)
section
variable {ns ws : List Int}
theorem w_pos (hw : Wts ws) {j : Nat} (hj : j < ws.length) : 0 < ws.getD j 0 := (hw _ (getD_mem hj)).1
theorem S_mono (hw : Wts ws) {f g : Int → Bool} (h : ∀ n, f n = true → g n = true) {x y : Nat} (hx : x ≤ y) (hy : y ≤ ws.length) : S ns ws f x y ≤ S ns ws g x y := pf_le hx fun j _ hj => by
  have := w_pos hw (show j < ws.length by omega)
  unfold wv
  by_cases e : f (ns.getD j 0) = true
  · rw [if_pos e, if_pos (h _ e)]
    exact Int.le_refl _
  · rw [if_neg e]
    split <;> omega
theorem S_pos (hw : Wts ws) (f : Int → Bool) {x y : Nat} (hx : x ≤ y) (hy : y ≤ ws.length) : 0 ≤ S ns ws f x y := by
  have := S_mono (ns := ns) hw (f := fun _ => false) (g := f) (fun n z => by cases z) hx hy
  have e : ∀ i, pf (wv ns ws fun _ => false) i = 0 := fun i => by
    induction i with
    | zero => rfl
    | succ i ih =>
      show pf _ i + wv ns ws _ i = 0
      rw [ih]
      rfl
  unfold S at *
  rw [e, e] at this
  omega
theorem S_split (f : Int → Bool) (x y z : Nat) : S ns ws f x z = S ns ws f x y + S ns ws f y z := by
  unfold S
  omega
theorem S_self (f : Int → Bool) (x : Nat) : S ns ws f x x = 0 := Int.sub_self _
theorem S_one (f : Int → Bool) (x : Nat) : S ns ws f x (x + 1) = wv ns ws f x := by
  show pf (wv ns ws f) x + wv ns ws f x - pf (wv ns ws f) x = _
  omega
theorem S_add {f g h : Int → Bool} (e : ∀ n w : Int, (if f n = true then w else 0) = (if g n = true then w else 0) + (if h n = true then w else 0)) (x y : Nat) : S ns ws f x y = S ns ws g x y + S ns ws h x y := by
  have q : ∀ i, pf (wv ns ws f) i = pf (wv ns ws g) i + pf (wv ns ws h) i := fun i => by
    rw [← pf_add]
    have : wv ns ws f = fun j => wv ns ws g j + wv ns ws h j := funext fun j => e _ _
    rw [this]
  unfold S
  rw [q, q]
  omega
theorem S_ge (v : Int) (x y : Nat) : S ns ws (ge v) x y = S ns ws (eq v) x y + S ns ws (gt v) x y := S_add (fun n w => by
  simp only [decide_eq_true_eq]
  split <;> split <;> split <;> omega) x y
theorem S_le (v : Int) (x y : Nat) : S ns ws (le v) x y = S ns ws (eq v) x y + S ns ws (lt v) x y := S_add (fun n w => by
  simp only [decide_eq_true_eq]
  split <;> split <;> split <;> omega) x y
/-- what a block with its level is known for -/
structure Blv (ns ws : List Int) (a e : Nat) (v : Int) : Prop where
  A : ∀ c, a ≤ c → c ≤ e → S ns ws (lt v) a c ≤ S ns ws (ge v) a c
  B : ∀ c, a ≤ c → c ≤ e → S ns ws (gt v) c e ≤ S ns ws (le v) c e
  T : S ns ws (lt v) a e < S ns ws (ge v) a e
theorem sub_lt {u v : Int} (h : u ≤ v) : ∀ n, lt u n = true → lt v n = true := fun n z => decide_eq_true (by have := of_decide_eq_true z; omega)
theorem sub_ge {u v : Int} (h : v ≤ u) : ∀ n, ge u n = true → ge v n = true := fun n z => decide_eq_true (by have := of_decide_eq_true z; omega)
theorem sub_gt {u v : Int} (h : v ≤ u) : ∀ n, gt u n = true → gt v n = true := fun n z => decide_eq_true (by have := of_decide_eq_true z; omega)
theorem sub_le {u v : Int} (h : u ≤ v) : ∀ n, le u n = true → le v n = true := fun n z => decide_eq_true (by have := of_decide_eq_true z; omega)
theorem sub_ge_gt {u v : Int} (h : v < u) : ∀ n, ge u n = true → gt v n = true := fun n z => decide_eq_true (by have := of_decide_eq_true z; omega)
theorem sub_le_lt {u v : Int} (h : u < v) : ∀ n, le u n = true → lt v n = true := fun n z => decide_eq_true (by have := of_decide_eq_true z; omega)
theorem Blv.merge (hw : Wts ws) {a b e : Nat} {u v m : Int} (h1 : Blv ns ws a b u) (h2 : Blv ns ws b e v) (hab : a ≤ b) (hbe : b ≤ e) (he : e ≤ ws.length) (huv : v < u)
    (M1 : S ns ws (lt m) a e < S ns ws (ge m) a e) (M2 : S ns ws (gt m) a e ≤ S ns ws (le m) a e) : Blv ns ws a e m := by
  have mo : ∀ {f g : Int → Bool} (h : ∀ n, f n = true → g n = true) {x y : Nat} (hx : x ≤ y) (hy : y ≤ e), S ns ws f x y ≤ S ns ws g x y := fun {f g} h {x y} hx hy => S_mono hw h hx (by omega)
  have mu : m ≤ u := by
    by_cases z : m ≤ u
    · exact z
    · have z' : u < m := by omega
      have p1 := mo (sub_ge_gt z') (x := a) (y := b) hab hbe
      have p2 := h1.B a (Nat.le_refl _) hab
      have p3 := mo (sub_le_lt z') (x := a) (y := b) hab hbe
      have p4 := mo (sub_ge_gt (show v < m by omega)) (x := b) (y := e) hbe (Nat.le_refl _)
      have p5 := h2.B b (Nat.le_refl _) hbe
      have p6 := mo (sub_le_lt (show v < m by omega)) (x := b) (y := e) hbe (Nat.le_refl _)
      rw [S_split _ a b e, S_split (ge m) a b e] at M1
      omega
  have vm : v ≤ m := by
    by_cases z : v ≤ m
    · exact z
    · have z' : m < v := by omega
      have p1 := mo (sub_le_lt (show m < u by omega)) (x := a) (y := b) hab hbe
      have p2 := h1.T
      have p3 := mo (sub_ge_gt (show m < u by omega)) (x := a) (y := b) hab hbe
      have p4 := mo (sub_le_lt z') (x := b) (y := e) hbe (Nat.le_refl _)
      have p5 := h2.T
      have p6 := mo (sub_ge_gt z') (x := b) (y := e) hbe (Nat.le_refl _)
      rw [S_split _ a b e, S_split (le m) a b e] at M2
      omega
  refine ⟨fun c hc1 hc2 => ?_, fun c hc1 hc2 => ?_, M1⟩
  · rcases Nat.le_total c b with hc | hc
    · have p1 := mo (sub_lt mu) (x := a) (y := c) hc1 hc2
      have p2 := h1.A c hc1 hc
      have p3 := mo (sub_ge mu) (x := a) (y := c) hc1 hc2
      omega
    · by_cases z : m = v
      · subst z
        have p1 := mo (sub_lt mu) (x := a) (y := b) hab hbe
        have p2 := h1.A b hab (Nat.le_refl _)
        have p3 := mo (sub_ge mu) (x := a) (y := b) hab hbe
        have p4 := h2.A c hc hc2
        rw [S_split _ a b c, S_split (ge m) a b c]
        omega
      · have p1 := mo (sub_le_lt (show v < m by omega)) (x := c) (y := e) hc2 (Nat.le_refl _)
        have p2 := h2.B c hc hc2
        have p3 := mo (sub_ge_gt (show v < m by omega)) (x := c) (y := e) hc2 (Nat.le_refl _)
        rw [S_split _ a c e, S_split (ge m) a c e] at M1
        omega
  · rcases Nat.le_total b c with hc | hc
    · have p1 := mo (sub_gt vm) (x := c) (y := e) hc2 (Nat.le_refl _)
      have p2 := h2.B c hc hc2
      have p3 := mo (sub_le vm) (x := c) (y := e) hc2 (Nat.le_refl _)
      omega
    · by_cases z : m = u
      · subst z
        have p1 := h1.B c hc1 hc
        have p2 := mo (sub_gt vm) (x := b) (y := e) hbe (Nat.le_refl _)
        have p3 := h2.B b (Nat.le_refl _) hbe
        have p4 := mo (sub_le vm) (x := b) (y := e) hbe (Nat.le_refl _)
        rw [S_split _ c b e, S_split (le m) c b e]
        omega
      · have p1 := mo (sub_ge_gt (show m < u by omega)) (x := a) (y := c) hc1 hc2
        have p2 := h1.A c hc1 hc
        have p3 := mo (sub_le_lt (show m < u by omega)) (x := a) (y := c) hc1 hc2
        rw [S_split _ a c e, S_split (le m) a c e] at M2
        omega
/-! ### the median -/
def plc (a m : Nat) : List Int := (List.range m).map fun j => ((a + j : Nat) : Int)
theorem plc_len (a m : Nat) : (plc a m).length = m := by
  unfold plc
  rw [List.length_map, List.length_range]
theorem plc_app (a m k : Nat) : plc a m ++ plc (a + m) k = plc a (m + k) := by
  unfold plc
  rw [List.range_add, List.map_append, List.map_map]
  congr 1
  apply List.map_congr_left
  intro j _
  show ((a + m + j : Nat) : Int) = ((a + (m + j) : Nat) : Int)
  rw [Nat.add_assoc]
theorem plc_sum (g : Nat → Int) (a : Nat) : ∀ m, ((plc a m).map fun p => g p.toNat).sum = pf g (a + m) - pf g a
  | 0 => by
    show 0 = pf g (a + 0) - pf g a
    rw [Nat.add_zero]
    omega
  | m + 1 => by
    rw [← plc_app a m 1, List.map_append, List.sum_append, plc_sum g a m]
    show _ + (g (((a + m + 0 : Nat) : Int)).toNat + 0) = pf g (a + m) + g (a + m) - pf g a
    rw [Nat.add_zero, Int.toNat_natCast]
    omega
theorem perm_sum {f : Int → Int} {L M : List Int} (h : L.Perm M) : (L.map f).sum = (M.map f).sum := by
  induction h with
  | nil => rfl
  | cons x _ ih => rw [List.map_cons, List.map_cons, List.sum_cons, List.sum_cons, ih]
  | swap x y l =>
    simp only [List.map_cons, List.sum_cons]
    omega
  | trans _ _ i1 i2 => exact i1.trans i2
theorem filter_sum (f : Int → Bool) (g : Int → Int) : ∀ ps : List Int, ((ps.filter f).map g).sum = (ps.map fun p => if f p = true then g p else 0).sum
  | [] => rfl
  | p :: r => by
    rw [List.filter_cons, List.map_cons, List.sum_cons, ← filter_sum f g r]
    split
    · rw [List.map_cons, List.sum_cons]
    · omega
theorem key_up (ns ps : List Int) : (byKey ns ps).Pairwise fun x y => nAt ns x ≤ nAt ns y := by
  have h := List.pairwise_mergeSort (le := fun x y : Int => decide (nAt ns x ≤ nAt ns y)) (fun a b c h1 h2 => by
    simp only [decide_eq_true_eq] at *
    omega) (fun a b => by
    simp only [Bool.or_eq_true, decide_eq_true_eq]
    omega) ps
  refine List.Pairwise.imp (fun {a b} h => ?_) h
  exact of_decide_eq_true h
theorem med_split (whole : Int) (hw0 : 0 < whole) : ∀ (L : List Int) (D : List Int), (D = [] ∧ True ∨ ∃ A p C, D = A ++ p :: C ∧ 2 * wOn ws A < whole ∧ (C = [] ∨ whole ≤ 2 * (wOn ws A + nAt ws p))) → D ++ L ≠ [] →
    ∀ s : Int × Int, s.2 = wOn ws D → (∀ A p C, D = A ++ p :: C → 2 * wOn ws A < whole → (C = [] ∨ whole ≤ 2 * (wOn ws A + nAt ws p)) → True) →
    (D = [] ∨ ∃ A p C, D = A ++ p :: C ∧ s.1 = nAt ns p ∧ 2 * wOn ws A < whole ∧ (C = [] ∨ whole ≤ 2 * (wOn ws A + nAt ws p))) →
    ∃ A p C, D ++ L = A ++ p :: C ∧ (L.foldl (medStep ns ws whole) s).1 = nAt ns p ∧ 2 * wOn ws A < whole ∧ (C = [] ∨ whole ≤ 2 * (wOn ws A + nAt ws p))
  | [], D, _, hne, s, _, _, h => by
    rw [List.append_nil] at *
    rcases h with h | h
    · exact (hne h).elim
    · exact h
  | q :: L, D, h0, hne, s, hs, ht, h => by
    have step : ∃ A p C, D ++ [q] = A ++ p :: C ∧ (medStep ns ws whole s q).1 = nAt ns p ∧ 2 * wOn ws A < whole ∧ (C = [] ∨ whole ≤ 2 * (wOn ws A + nAt ws p)) := by
      unfold medStep
      by_cases c : 2 * s.2 < whole
      · rw [if_pos c]
        exact ⟨D, q, [], rfl, rfl, by rw [← hs]; exact c, .inl rfl⟩
      · rw [if_neg c]
        rcases h with h | ⟨A, p, C, e1, e2, e3, e4⟩
        · subst h
          have : wOn ws [] = 0 := rfl
          omega
        · refine ⟨A, p, C ++ [q], by rw [e1, List.append_assoc]; rfl, e2, e3, .inr ?_⟩
          rcases e4 with e4 | e4
          · subst e4
            have : wOn ws D = wOn ws A + nAt ws p := by
              rw [e1]
              unfold wOn
              rw [List.map_append, List.sum_append]
              simp
            omega
          · exact e4
    have hs2 : (medStep ns ws whole s q).2 = wOn ws (D ++ [q]) := by
      unfold medStep wOn
      rw [List.map_append, List.sum_append]
      show s.2 + nAt ws q = _ + (nAt ws q + 0)
      rw [hs]
      unfold wOn
      omega
    have := med_split whole hw0 L (D ++ [q]) (by
      obtain ⟨A, p, C, e1, e2, e3, e4⟩ := step
      exact .inr ⟨A, p, C, e1, e3, e4⟩) (by simp) _ hs2 (fun _ _ _ _ _ _ => trivial) (.inr step)
    rw [List.append_assoc] at this
    exact this
theorem med_ok (hw : Wts ws) (he : ws.length = ns.length) {a m : Nat} (hm : 0 < m) (ha : a + m ≤ ns.length) :
    S ns ws (lt (med ns ws (plc a m))) a (a + m) < S ns ws (ge (med ns ws (plc a m))) a (a + m) ∧ S ns ws (gt (med ns ws (plc a m))) a (a + m) ≤ S ns ws (le (med ns ws (plc a m))) a (a + m) := by
  have hperm : (byKey ns (plc a m)).Perm (plc a m) := List.mergeSort_perm _ _
  have toS : ∀ f : Int → Bool, S ns ws f a (a + m) = ((byKey ns (plc a m)).map fun p => if f (nAt ns p) = true then nAt ws p else 0).sum := fun f => by
    rw [perm_sum hperm]
    exact (plc_sum (wv ns ws f) a m).symm
  have wpos : ∀ p ∈ byKey ns (plc a m), 0 < nAt ws p := fun p hp => by
    obtain ⟨j, hj, rfl⟩ := List.mem_map.mp (hperm.mem_iff.mp hp)
    have := List.mem_range.mp hj
    unfold nAt
    rw [Int.toNat_natCast]
    exact w_pos hw (by omega)
  have whole : wOn ws (plc a m) = wOn ws (byKey ns (plc a m)) := (perm_sum hperm).symm
  have hne : byKey ns (plc a m) ≠ [] := fun z => by
    have := congrArg List.length z
    rw [key_len, plc_len] at this
    simp at this
    omega
  have up := key_up ns (plc a m)
  have w0 : ∀ L : List Int, (∀ p ∈ L, 0 < nAt ws p) → 0 ≤ wOn ws L := fun L => by
    induction L with
    | nil => exact fun _ => Int.le_refl _
    | cons x L ih =>
      intro h
      have := ih fun p hp => h p (List.mem_cons_of_mem _ hp)
      have := h x List.mem_cons_self
      unfold wOn at *
      rw [List.map_cons, List.sum_cons]
      omega
  generalize hL : byKey ns (plc a m) = L at *
  have hwh : 0 < wOn ws L := by
    cases L with
    | nil => exact (hne rfl).elim
    | cons x L =>
      have h1 := wpos x List.mem_cons_self
      have h2 := w0 L fun p hp => wpos p (List.mem_cons_of_mem _ hp)
      unfold wOn at *
      rw [List.map_cons, List.sum_cons]
      omega
  obtain ⟨A, p, C, e1, e2, e3, e4⟩ := med_split (ns := ns) (ws := ws) (wOn ws L) hwh L [] (.inl ⟨rfl, trivial⟩) hne (0, 0) rfl (fun _ _ _ _ _ _ => trivial) (.inl rfl)
  rw [List.nil_append] at e1
  have hv : med ns ws (plc a m) = nAt ns p := by
    unfold med
    rw [hL, whole]
    exact e2
  rw [hv]
  have hsum : wOn ws L = wOn ws A + nAt ws p + wOn ws C := by
    rw [e1]
    unfold wOn
    rw [List.map_append, List.sum_append, List.map_cons, List.sum_cons]
    omega
  rw [e1] at up wpos
  have wA := w0 A fun x hx => wpos x (List.mem_append_left _ hx)
  have wC := w0 C fun x hx => wpos x (List.mem_append_right _ (List.mem_cons_of_mem _ hx))
  have wp := wpos p (List.mem_append_right _ List.mem_cons_self)
  obtain ⟨_, u2, u3⟩ := List.pairwise_append.mp up
  have cA : ∀ x ∈ A, nAt ns x ≤ nAt ns p := fun x hx => u3 x hx p List.mem_cons_self
  have cC : ∀ x ∈ C, nAt ns p ≤ nAt ns x := fun x hx => (List.pairwise_cons.mp u2).1 x hx
  have part : ∀ (f : Int → Bool) (B : List Int), (∀ x ∈ B, 0 < nAt ws x) → 0 ≤ (B.map fun p => if f (nAt ns p) = true then nAt ws p else 0).sum ∧ (B.map fun p => if f (nAt ns p) = true then nAt ws p else 0).sum ≤ wOn ws B := fun f B => by
    induction B with
    | nil => exact fun _ => ⟨Int.le_refl _, Int.le_refl _⟩
    | cons x B ih =>
      intro h
      have := ih fun p hp => h p (List.mem_cons_of_mem _ hp)
      have := h x List.mem_cons_self
      unfold wOn at *
      rw [List.map_cons, List.sum_cons, List.map_cons, List.sum_cons]
      split <;> omega
  have none : ∀ (f : Int → Bool) (B : List Int), (∀ x ∈ B, f (nAt ns x) = false) → (B.map fun p => if f (nAt ns p) = true then nAt ws p else 0).sum = 0 := fun f B => by
    induction B with
    | nil => exact fun _ => rfl
    | cons x B ih =>
      intro h
      rw [List.map_cons, List.sum_cons, ih fun p hp => h p (List.mem_cons_of_mem _ hp), if_neg (by rw [h x List.mem_cons_self]; exact Bool.false_ne_true)]
      rfl
  have pA := fun f => part f A fun x hx => wpos x (List.mem_append_left _ hx)
  have pC := fun f => part f C fun x hx => wpos x (List.mem_append_right _ (List.mem_cons_of_mem _ hx))
  have tot : ∀ f : Int → Bool, S ns ws f a (a + m) = (A.map fun p => if f (nAt ns p) = true then nAt ws p else 0).sum + (if f (nAt ns p) = true then nAt ws p else 0) + (C.map fun p => if f (nAt ns p) = true then nAt ws p else 0).sum := fun f => by
    rw [toS, e1, List.map_append, List.sum_append, List.map_cons, List.sum_cons]
    omega
  have all1 : S ns ws (lt (nAt ns p)) a (a + m) + S ns ws (ge (nAt ns p)) a (a + m) = wOn ws L := by
    rw [← S_add (f := fun _ => true) (fun n w => by
      simp only [decide_eq_true_eq, if_true]
      split <;> split <;> omega), toS, e1]
    unfold wOn
    simp
  have all2 : S ns ws (gt (nAt ns p)) a (a + m) + S ns ws (le (nAt ns p)) a (a + m) = wOn ws L := by
    rw [← S_add (f := fun _ => true) (fun n w => by
      simp only [decide_eq_true_eq, if_true]
      split <;> split <;> omega), toS, e1]
    unfold wOn
    simp
  have t1 := tot (lt (nAt ns p))
  have t2 := tot (gt (nAt ns p))
  rw [none _ C fun x hx => decide_eq_false (by have := cC x hx; omega), if_neg (by simp)] at t1
  rw [none _ A fun x hx => decide_eq_false (by have := cA x hx; omega), if_neg (by simp)] at t2
  have q1 := pA (lt (nAt ns p))
  have q2 := pC (gt (nAt ns p))
  constructor
  · omega
  · rcases e4 with e4 | e4
    · subst e4
      have : wOn ws ([] : List Int) = 0 := rfl
      omega
    · omega
end
end
end U

namespace U
open PySem PySem.Spec PyProof.Rows L2 DL
section
variable {P : Program} {w : World} {K : PySem.W.Frag} {mg : Str → Option Value} {base : Heap}
local macro_rules | `(tactic| walk_at "lk") => `(tactic| first | with_reducible exact look_hit | ((with_reducible refine look_miss (by decide +kernel) ?_); walk_at "lk") | with_reducible exact look_nil)
local macro_rules | `(tactic| walk_at "fz") => `(tactic| simp only [fz, fzB, chF, Ch.d, List.map, List.set])
local macro_rules | `(tactic| walk_at "ob") => `(tactic| first
  | ((with_reducible show look _ _ = _); walk_at "lk")
  | with_reducible apply de_callO | ((with_reducible show B.d _ = _); rfl) | ((with_reducible apply de_either1); (with_reducible apply de_meth); exact de_var rfl) | ((with_reducible apply de_either2); (with_reducible apply de_meth); exact de_var rfl)
  | with_reducible exact de_cls | with_reducible apply de_fld | with_reducible apply rc_isC | with_reducible apply de_meth
  | walk_at "cl")
local macro_rules | `(tactic| walk_at "r2") => `(tactic| (fail_if_success (with_reducible show R2D _ _ D.non _ _)); (fail_if_success (with_reducible show R2D _ _ _ D.non _)); first
  | exact r2_add | exact r2_sub | exact r2_lt | exact r2_le | exact r2_gt | exact r2_ge
  | with_reducible exact r2_p30 | with_reducible exact r2_p9
  | with_reducible apply r2_mod | with_reducible apply r2_fdiv | with_reducible apply r2_mul | with_reducible apply r2_pow | with_reducible apply r2_cat | with_reducible apply r2_rep1
  | exact r2_ixT rfl | exact r2_ixL rfl | with_reducible apply r2_ixN | with_reducible apply r2_ixI
  | exact r2_eqI | exact r2_neI | exact r2_eqB | exact r2_neB | exact r2_eqL | exact r2_neL | exact r2_isB | exact r2_notB)
local macro_rules | `(tactic| walk_at "rc") => `(tactic| (fail_if_success (with_reducible show RCD _ _ [D.non] _)); (fail_if_success (with_reducible show RCD _ _ [D.non, _] _)); (fail_if_success (with_reducible show RCD _ _ [_, D.non] _)); first
  | with_reducible exact rc_srt
  | exact rc_abs | exact rc_max2 | exact rc_min2 | exact rc_sum | exact rc_all | exact rc_any | exact rc_lenL | exact rc_lenT | exact rc_listL | exact rc_listT
  | with_reducible apply rc_int | with_reducible apply rc_bool | with_reducible apply rc_list | with_reducible apply rc_tuple)
local macro_rules | `(tactic| walk_at "d1") => `(tactic| first
  | with_reducible exact de_int | with_reducible exact de_bl | with_reducible exact de_non | exact de_var rfl
  | with_reducible exact da_nil | with_reducible apply da_cons
  | with_reducible apply de_op | with_reducible apply de_un | with_reducible apply de_cb | with_reducible apply de_call
  | with_reducible apply de_tup | with_reducible apply de_lst
  | with_reducible apply de_andV | with_reducible apply de_orV | with_reducible apply de_notV | ((with_reducible show _ = true → _); intro _) | ((with_reducible show _ = false → _); intro _)
  | with_reducible apply dt_and | with_reducible apply dt_or | with_reducible apply dt_not | with_reducible apply dt_test | with_reducible apply dt_B
  | with_reducible apply de_slice | with_reducible exact do_none | with_reducible apply do_some | with_reducible apply de_rev
  | with_reducible apply de_maxD | with_reducible apply de_chain3 | with_reducible apply de_chain
  | walk_at "r2" | walk_at "rc" | walk_at "ob"
  | ((with_reducible show R1D _ _ (D.int _) _); exact r1_neg)
  | with_reducible exact de_ty
  | with_reducible exact ne_int | with_reducible exact ne_lst | with_reducible exact ne_tup | with_reducible exact ne_bl
  | ((with_reducible show List.length _ = _); rfl) | ((with_reducible show List.length _ + 1 = _); rfl)
  | (with_reducible show List.length _ ≤ 1000); exact Nat.le_of_ble_eq_true rfl)
local macro_rules | `(tactic| walk_at "dg") => `(tactic| repeat' (first | exact dg_name _ trivial | exact dg_name _ (by decide) | with_reducible exact dg_nil | with_reducible apply dg_cons | with_reducible apply dg_tup | ((with_reducible show List.length _ = _); rfl)))
local macro_rules | `(tactic| walk_at "de") => `(tactic| repeat' walk_at "d1")
local macro_rules | `(tactic| walk_at "ret") => `(tactic| (apply ds_ret; apply deo; walk_at "de"))
local macro_rules | `(tactic| walk_at "asg") => `(tactic| (apply ds_seq; apply ds_asg; apply deo; walk_at "de"))
local macro_rules | `(tactic| walk_at "drop") => `(tactic| (apply ds_seq; apply ds_drop; apply deo; walk_at "de"))
local macro_rules | `(tactic| walk_at "par") => `(tactic| (apply ds_seq; apply ds_par; apply dao; walk_at "de"))
local macro_rules | `(tactic| walk_at "parG") => `(tactic| (apply ds_seq; apply ds_asgG; apply deo; walk_at "de"; walk_at "dg"))
local macro_rules | `(tactic| walk_at "lc") => `(tactic| first | with_reducible exact lookC_hit | with_reducible exact lookC_nil | ((with_reducible refine lookC_miss (by decide +kernel) ?_); walk_at "lc"))
local macro_rules | `(tactic| walk_at "pc") => `(tactic| first | with_reducible exact putC_hit | with_reducible exact putC_nil | ((with_reducible apply putC_miss); (decide +kernel); (walk_at "pc")))
local macro_rules | `(tactic| walk_at "cl") => `(tactic| first | with_reducible exact Tx.c_Band _ | with_reducible exact Tx.i_Band _ | with_reducible exact Tx.n_Band_lows _ | with_reducible exact Tx.n_Band_highs _ | with_reducible exact Tx.c_Barred _ | with_reducible exact Tx.i_Barred _ | with_reducible exact Tx.n_Barred_first _ | with_reducible exact Tx.n_Barred_second _ | with_reducible exact Tx.c_Evened _ | with_reducible exact Tx.i_Evened _ | with_reducible exact Tx.n_Evened_row _ | with_reducible exact Tx.n_Evened_first _ | with_reducible exact Tx.n_Evened_second _ | with_reducible exact Tx.c_Squared _ | with_reducible exact Tx.i_Squared _ | with_reducible exact Tx.n_Squared_row _ | with_reducible exact Tx.c_Summed _ | with_reducible exact Tx.i_Summed _ | with_reducible exact Tx.n_Summed_row _ | with_reducible exact Tx.n_Summed_pulls _ | with_reducible exact Tx.is_Band_Barred _ | with_reducible exact Tx.is_Band_Evened _ | with_reducible exact Tx.is_Band_Squared _ | with_reducible exact Tx.is_Band_Summed _ | with_reducible exact Tx.is_Barred_Band _ | with_reducible exact Tx.is_Barred_Evened _ | with_reducible exact Tx.is_Barred_Squared _ | with_reducible exact Tx.is_Barred_Summed _ | with_reducible exact Tx.is_Evened_Band _ | with_reducible exact Tx.is_Evened_Barred _ | with_reducible exact Tx.is_Evened_Squared _ | with_reducible exact Tx.is_Evened_Summed _ | with_reducible exact Tx.is_Squared_Band _ | with_reducible exact Tx.is_Squared_Barred _ | with_reducible exact Tx.is_Squared_Evened _ | with_reducible exact Tx.is_Squared_Summed _ | with_reducible exact Tx.is_Summed_Band _ | with_reducible exact Tx.is_Summed_Barred _ | with_reducible exact Tx.is_Summed_Evened _ | with_reducible exact Tx.is_Summed_Squared _| with_reducible exact (Tx.i_Band _).me | with_reducible exact (Tx.i_Barred _).me | with_reducible exact (Tx.i_Evened _).me | with_reducible exact (Tx.i_Squared _).me | with_reducible exact (Tx.i_Summed _).me)
local macro_rules | `(tactic| walk_at "d1") => `(tactic| first | exact c_common | with_reducible apply c_is_number)
local macro_rules | `(tactic| walk_at "d1") => `(tactic| with_reducible apply c_lowest)
local macro_rules | `(tactic| walk_at "d1") => `(tactic| with_reducible apply c_are_numbers)
local macro_rules | `(tactic| walk_at "d1") => `(tactic| with_reducible apply c_check_numbers)
local macro_rules | `(tactic| walk_at "d1") => `(tactic| with_reducible apply c_check_row)
local macro_rules | `(tactic| walk_at "d1") => `(tactic| with_reducible apply c_check_weights)
local macro_rules | `(tactic| walk_at "d1") => `(tactic| with_reducible apply c_greatest_of)
local macro_rules | `(tactic| walk_at "d1") => `(tactic| with_reducible apply c_sum_of)
local macro_rules | `(tactic| walk_at "d1") => `(tactic| first | with_reducible apply c_greatest | with_reducible apply c_summed_up | with_reducible exact c_is_fraction)
local macro_rules | `(tactic| walk_at "d1") => `(tactic| first | with_reducible exact c__law_whole2 | with_reducible apply c__law_whole)
local macro_rules | `(tactic| walk_at "d1") => `(tactic| with_reducible first | exact div21 | exact div3 | exact div2 | exact div5 | exact div7 | exact div30 | exact div230 | exact pos21 | exact pos2 | exact pos3 | exact pos5 | exact pos7 | exact pos9 | exact pos12 | exact posE30 | exact posE9 | exact mul2 | exact mul2l | exact mul3l)
local macro_rules | `(tactic| walk_at "d1") => `(tactic| first | with_reducible apply c__law_numbers | with_reducible apply c__law_weights)
local macro_rules | `(tactic| walk_at "d1") => `(tactic| with_reducible apply c_rises)
local macro_rules | `(tactic| walk_at "d1") => `(tactic| with_reducible apply c_highest_so_far)
local macro_rules | `(tactic| walk_at "d1") => `(tactic| with_reducible apply c_worst_places)
local macro_rules | `(tactic| walk_at "d1") => `(tactic| with_reducible apply c_Evened_shows)
local macro_rules | `(tactic| walk_at "d1") => `(tactic| with_reducible apply c__law_rises)
local macro_rules | `(tactic| walk_at "d1") => `(tactic| first | with_reducible apply c__law_even | with_reducible apply c__law_whole | with_reducible exact c__law_whole2)
local macro_rules | `(tactic| walk_at "d1") => `(tactic| first | with_reducible apply c_Band_shows | with_reducible exact c_Barred_shows)
local macro_rules | `(tactic| walk_at "d1") => `(tactic| with_reducible apply c_from_nought)
/-! ## pulls of a block -/
section
variable {ns ws : List Int}
theorem wv_no {f : Int → Bool} {j : Nat} (h : f (ns.getD j 0) = false) : wv ns ws f j = 0 := if_neg (by rw [h]; exact Bool.false_ne_true)
inductive CovS (ns ws : List Int) : List Bs → Nat → Prop
  | nil : CovS ns ws [] 0
  | cons {r : List Bs} {b : Bs} {a m e : Nat} : CovS ns ws r a → b.ps = plc a m → 0 < m → a + m = e → Blv ns ws a e b.l → (∀ x, r.head? = some x → x.l ≤ b.l) → CovS ns ws (b :: r) e
theorem mrgS_cov (hw : Wts ws) (he : ws.length = ns.length) : ∀ (r : List Bs) (ps : List Int) (l : Int) (a m : Nat), CovS ns ws r a → ps = plc a m → 0 < m → a + m ≤ ns.length → Blv ns ws a (a + m) l → CovS ns ws (mrgS ns ws r ps l) (a + m)
  | [], ps, l, a, m, h, hp, hm, hn, hb => by
    unfold mrgS
    exact .cons h hp hm rfl hb fun x hx => by cases hx
  | b :: r, ps, l, a, m, h, hp, hm, hn, hb => by
    unfold mrgS
    split
    · rename_i hlt
      cases h with
      | @cons _ _ a0 m0 _ h0 hp0 hm0 e0 hb0 _ =>
        have ep : b.ps ++ ps = plc a0 (m0 + m) := by
          rw [hp0, hp, ← e0, plc_app]
        have ea : a + m = a0 + (m0 + m) := by omega
        have hM := med_ok (ns := ns) hw he (a := a0) (m := m0 + m) (by omega) (by omega)
        rw [ea, ep]
        rw [ea] at hb
        refine mrgS_cov hw he r _ _ a0 (m0 + m) h0 rfl (by omega) (by omega) ?_
        exact Blv.merge hw hb0 hb (by omega) (by omega) (by omega) hlt hM.1 hM.2
    · rename_i hlt
      refine .cons h hp hm rfl hb fun x hx => ?_
      cases hx
      show b.l ≤ l
      omega
theorem one_blv (hw : Wts ws) {i : Nat} (hi : i < ws.length) : Blv ns ws i (i + 1) (ns.getD i 0) := by
  have w := w_pos hw hi
  have l0 : wv ns ws (lt (ns.getD i 0)) i = 0 := wv_no (decide_eq_false (by omega))
  have g0 : wv ns ws (gt (ns.getD i 0)) i = 0 := wv_no (decide_eq_false (by omega))
  have g1 : wv ns ws (ge (ns.getD i 0)) i = ws.getD i 0 := if_pos (by simp)
  have l1 : wv ns ws (le (ns.getD i 0)) i = ws.getD i 0 := if_pos (by simp)
  refine ⟨fun c h1 h2 => ?_, fun c h1 h2 => ?_, ?_⟩
  · by_cases e : c = i
    · subst e
      rw [S_self, S_self]
      exact Int.le_refl _
    · obtain rfl : c = i + 1 := by omega
      rw [S_one, S_one, l0, g1]
      omega
  · by_cases e : c = i
    · subst e
      rw [S_one, S_one, g0, l1]
      omega
    · obtain rfl : c = i + 1 := by omega
      rw [S_self, S_self]
      exact Int.le_refl _
  · rw [S_one, S_one, l0, g1]
    exact w
theorem plc_one (i : Nat) : [(i : Int)] = plc i 1 := by
  show [(i : Int)] = [((i + 0 : Nat) : Int)]
  rw [Nat.add_zero]
theorem stkS_cov (hw : Wts ws) (he : ws.length = ns.length) : ∀ i, i ≤ ns.length → CovS ns ws (stkS ns ws i) i
  | 0, _ => .nil
  | i + 1, hi => mrgS_cov hw he _ _ _ i 1 (stkS_cov hw he i (by omega)) (plc_one i) Nat.one_pos hi (one_blv hw (by omega))
def needB (ns ws : List Int) (a e : Nat) (l : Int) : Int := S ns ws (lt l) a e - S ns ws (gt l) a e
/-- what the equal ones pull, up to the k-th place -/
def eqP (ns ws : List Int) (a e : Nat) (l : Int) (k : Nat) : Int := if S ns ws (eq l) a (a + k) ≤ needB ns ws a e l + S ns ws (eq l) (a + k) e then S ns ws (eq l) a (a + k) else needB ns ws a e l + S ns ws (eq l) (a + k) e
def plB (ns ws : List Int) (a e : Nat) (l : Int) (k : Nat) : Int :=
  if ns.getD (a + k) 0 = l then minI (ws.getD (a + k) 0) (needB ns ws a e l - eqP ns ws a e l k + S ns ws (eq l) (a + k + 1) e) else if ns.getD (a + k) 0 < l then -ws.getD (a + k) 0 else ws.getD (a + k) 0
theorem S_step (f : Int → Bool) (x c e : Nat) : S ns ws f x (c + 1) = S ns ws f x c + wv ns ws f c ∧ S ns ws f c e = wv ns ws f c + S ns ws f (c + 1) e := by
  constructor
  · rw [S_split f x c (c + 1), S_one]
  · rw [S_split f c (c + 1) e, S_one]
theorem eq_step (hw : Wts ws) {a e : Nat} {l : Int} {k : Nat} (hk : a + k < ws.length) : eqP ns ws a e l (k + 1) = eqP ns ws a e l k + (if ns.getD (a + k) 0 = l then plB ns ws a e l k else 0) := by
  have w := w_pos hw hk
  obtain ⟨s1, s2⟩ := S_step (ns := ns) (ws := ws) (eq l) a (a + k) e
  obtain ⟨_, s3⟩ := S_step (ns := ns) (ws := ws) (eq l) a (a + k) e
  by_cases h : ns.getD (a + k) 0 = l
  · have v : wv ns ws (eq l) (a + k) = ws.getD (a + k) 0 := if_pos (decide_eq_true h)
    rw [if_pos h]
    unfold plB
    rw [if_pos h]
    unfold eqP minI
    rw [show a + (k + 1) = a + k + 1 by omega, s1, s2, v]
    split <;> split <;> split <;> omega
  · have v : wv ns ws (eq l) (a + k) = 0 := wv_no (decide_eq_false h)
    rw [if_neg h]
    unfold eqP
    rw [show a + (k + 1) = a + k + 1 by omega, s1, s2, v]
    split <;> split <;> omega
theorem take_plc (a m k : Nat) (h : k ≤ m) : (plc a m).take k = plc a k := by
  unfold plc
  rw [← List.map_take, List.take_range, Nat.min_eq_left h]
theorem plc_getD {a m k : Nat} (h : k < m) : (plc a m).getD k 0 = ((a + k : Nat) : Int) := range_getD (fun j => ((a + j : Nat) : Int)) 0 h
theorem wIf_S (f : Int → Bool) (a m : Nat) : wIf ns ws (plc a m) f = S ns ws f a (a + m) := by
  unfold wIf
  rw [filter_sum]
  exact plc_sum (wv ns ws f) a m
theorem pull_run (hw : Wts ws) {a m : Nat} {l : Int} (hb : Blv ns ws a (a + m) l) (hm : a + m ≤ ws.length) : ∀ k, k ≤ m → ((plc a m).take k).foldl (pullStep ns ws l) (pull0 ns ws (plc a m) l) = ((S ns ws (eq l) (a + k) (a + m), needB ns ws a (a + m) l - eqP ns ws a (a + m) l k), (List.range k).map (plB ns ws a (a + m) l))
  | 0, _ => by
    show pull0 ns ws (plc a m) l = _
    unfold pull0
    rw [wIf_S (eq l), wIf_S (lt l), wIf_S (gt l)]
    have hB := hb.B a (Nat.le_refl _) (by omega)
    rw [S_le] at hB
    have e0 : eqP ns ws a (a + m) l 0 = 0 := by
      unfold eqP needB
      rw [Nat.add_zero, S_self, if_pos (by omega)]
    rw [e0, Nat.add_zero, Int.sub_zero]
    rfl
  | k + 1, hk => by
    rw [foldl_take (d := 0) _ _ (by rw [plc_len]; omega), pull_run hw hb hm k (by omega), plc_getD (by omega)]
    have hkw : a + k < ws.length := by omega
    have es := eq_step (ns := ns) hw (e := a + m) (l := l) hkw
    obtain ⟨_, s2⟩ := S_step (ns := ns) (ws := ws) (eq l) a (a + k) (a + m)
    have n1 : nAt ns ((a + k : Nat) : Int) = ns.getD (a + k) 0 := by
      unfold nAt
      rw [Int.toNat_natCast]
    have n2 : nAt ws ((a + k : Nat) : Int) = ws.getD (a + k) 0 := by
      unfold nAt
      rw [Int.toNat_natCast]
    unfold pullStep
    rw [n1, n2, List.range_succ, List.map_append, List.map_singleton]
    dsimp only
    by_cases h : ns.getD (a + k) 0 = l
    · have v : wv ns ws (eq l) (a + k) = ws.getD (a + k) 0 := if_pos (decide_eq_true h)
      rw [if_pos h] at es ⊢
      have ep : plB ns ws a (a + m) l k = minI (ws.getD (a + k) 0) (needB ns ws a (a + m) l - eqP ns ws a (a + m) l k + (S ns ws (eq l) (a + k) (a + m) - ws.getD (a + k) 0)) := by
        unfold plB
        rw [if_pos h, s2, v]
        congr 1
        omega
      rw [← ep, es, show a + (k + 1) = a + k + 1 by omega]
      have e1 : S ns ws (eq l) (a + k) (a + m) - ws.getD (a + k) 0 = S ns ws (eq l) (a + k + 1) (a + m) := by
        rw [s2, v]
        omega
      rw [e1]
      exact Prod.ext (Prod.ext rfl (by dsimp only; omega)) rfl
    · have v : wv ns ws (eq l) (a + k) = 0 := wv_no (decide_eq_false h)
      rw [if_neg h] at es ⊢
      have ep : plB ns ws a (a + m) l k = if ns.getD (a + k) 0 < l then -ws.getD (a + k) 0 else ws.getD (a + k) 0 := by
        unfold plB
        rw [if_neg h]
      rw [← ep, es, show a + (k + 1) = a + k + 1 by omega, s2, v]
      exact Prod.ext (Prod.ext (by dsimp only; omega) (by dsimp only; omega)) rfl
theorem pulls_are (hw : Wts ws) {a m : Nat} {l : Int} (hb : Blv ns ws a (a + m) l) (hm : a + m ≤ ws.length) : pullsOf ns ws (plc a m) l = (List.range m).map (plB ns ws a (a + m) l) := by
  have q := pull_run hw hb hm m (Nat.le_refl _)
  rw [List.take_of_length_le (by rw [plc_len]; exact Nat.le_refl _)] at q
  unfold pullsOf
  rw [q]
/-- the sum of the pulls so far -/
theorem pull_sum (hw : Wts ws) {a m : Nat} {l : Int} (hb : Blv ns ws a (a + m) l) (hm : a + m ≤ ws.length) : ∀ k, k ≤ m → pf (plB ns ws a (a + m) l) k = S ns ws (gt l) a (a + k) - S ns ws (lt l) a (a + k) + eqP ns ws a (a + m) l k
  | 0, _ => by
    have hB := hb.B a (Nat.le_refl _) (by omega)
    rw [S_le] at hB
    have e0 : eqP ns ws a (a + m) l 0 = 0 := by
      unfold eqP needB
      rw [Nat.add_zero, S_self, if_pos (by omega)]
    rw [e0, Nat.add_zero, S_self, S_self]
    rfl
  | k + 1, hk => by
    have es := eq_step (ns := ns) hw (e := a + m) (l := l) (show a + k < ws.length by omega)
    obtain ⟨g1, _⟩ := S_step (ns := ns) (ws := ws) (gt l) a (a + k) (a + m)
    obtain ⟨l1, _⟩ := S_step (ns := ns) (ws := ws) (lt l) a (a + k) (a + m)
    show pf _ k + plB ns ws a (a + m) l k = _
    rw [pull_sum hw hb hm k (by omega), es, show a + (k + 1) = a + k + 1 by omega, g1, l1]
    by_cases h : ns.getD (a + k) 0 = l
    · have v1 : wv ns ws (gt l) (a + k) = 0 := wv_no (decide_eq_false (by omega))
      have v2 : wv ns ws (lt l) (a + k) = 0 := wv_no (decide_eq_false (by omega))
      rw [if_pos h, v1, v2]
      omega
    · rw [if_neg h]
      unfold plB
      rw [if_neg h]
      by_cases h2 : ns.getD (a + k) 0 < l
      · have v1 : wv ns ws (gt l) (a + k) = 0 := wv_no (decide_eq_false (by omega))
        have v2 : wv ns ws (lt l) (a + k) = ws.getD (a + k) 0 := if_pos (decide_eq_true h2)
        rw [if_pos h2, v1, v2]
        omega
      · have v1 : wv ns ws (gt l) (a + k) = ws.getD (a + k) 0 := if_pos (decide_eq_true (by omega))
        have v2 : wv ns ws (lt l) (a + k) = 0 := wv_no (decide_eq_false (by omega))
        rw [if_neg h2, v1, v2]
        omega
theorem pull_pos (hw : Wts ws) {a m : Nat} {l : Int} (hb : Blv ns ws a (a + m) l) (hm : a + m ≤ ws.length) {k : Nat} (hk : k ≤ m) : 0 ≤ pf (plB ns ws a (a + m) l) k := by
  rw [pull_sum hw hb hm k hk]
  have hA := hb.A (a + k) (by omega) (by omega)
  have hB := hb.B (a + k) (by omega) (by omega)
  rw [S_ge] at hA
  rw [S_le] at hB
  have t1 := S_split (ns := ns) (ws := ws) (lt l) a (a + k) (a + m)
  have t2 := S_split (ns := ns) (ws := ws) (gt l) a (a + k) (a + m)
  unfold eqP needB
  split <;> omega
theorem pull_nil (hw : Wts ws) {a m : Nat} {l : Int} (hb : Blv ns ws a (a + m) l) (hm : a + m ≤ ws.length) : pf (plB ns ws a (a + m) l) m = 0 := by
  rw [pull_sum hw hb hm m (Nat.le_refl _)]
  have hA := hb.A (a + m) (by omega) (by omega)
  rw [S_ge] at hA
  unfold eqP needB
  rw [S_self]
  split <;> omega
theorem pull_bound (hw : Wts ws) {a m : Nat} {l : Int} {k : Nat} (hk : a + k < ws.length) : -ws.getD (a + k) 0 ≤ plB ns ws a (a + m) l k ∧ plB ns ws a (a + m) l k ≤ ws.getD (a + k) 0 := by
  have w := w_pos hw hk
  unfold plB
  by_cases h : ns.getD (a + k) 0 = l
  · have v : wv ns ws (eq l) (a + k) = ws.getD (a + k) 0 := if_pos (decide_eq_true h)
    obtain ⟨_, s2⟩ := S_step (ns := ns) (ws := ws) (eq l) a (a + k) (a + m)
    rw [if_pos h]
    unfold minI eqP
    rw [s2, v]
    split <;> split <;> omega
  · rw [if_neg h]
    split <;> omega
theorem pull_told (hw : Wts ws) {a e : Nat} {l : Int} : ∀ k, pf (fun j => plB ns ws a e l j * ns.getD (a + j) 0) k = pf (fun j => ws.getD (a + j) 0 * absI (ns.getD (a + j) 0 - l)) k + l * pf (plB ns ws a e l) k
  | 0 => by
    show (0 : Int) = 0 + l * 0
    omega
  | k + 1 => by
    show pf _ k + plB ns ws a e l k * ns.getD (a + k) 0 = pf _ k + ws.getD (a + k) 0 * absI (ns.getD (a + k) 0 - l) + l * (pf _ k + plB ns ws a e l k)
    rw [pull_told hw k, Int.mul_add]
    have key : plB ns ws a e l k * ns.getD (a + k) 0 = ws.getD (a + k) 0 * absI (ns.getD (a + k) 0 - l) + l * plB ns ws a e l k := by
      by_cases h : ns.getD (a + k) 0 = l
      · rw [h, Int.sub_self, show absI 0 = 0 from rfl, Int.mul_zero, Int.zero_add, Int.mul_comm]
      · have ep : plB ns ws a e l k = if ns.getD (a + k) 0 < l then -ws.getD (a + k) 0 else ws.getD (a + k) 0 := by
          unfold plB
          rw [if_neg h]
        rw [ep]
        unfold absI
        generalize ns.getD (a + k) 0 = n at *
        generalize ws.getD (a + k) 0 = w
        by_cases h2 : n < l
        · rw [if_pos h2, if_pos (by omega)]
          grind
        · rw [if_neg h2, if_neg (by omega)]
          grind
    omega
/-! ## all of it -/
theorem covS_tot : ∀ {r : List Bs} {e : Nat}, CovS ns ws r e → totS r = e
  | _, _, .nil => rfl
  | _, _, .cons (b := b) (r := r) h hp _ he _ _ => by
    have := covS_tot h
    unfold totS at *
    rw [List.map_cons, List.sum_cons, this, hp, plc_len]
    omega
theorem pf_shift (g : Nat → Int) (a : Nat) : ∀ k, pf (fun j => g (a + j)) k = pf g (a + k) - pf g a
  | 0 => by
    show 0 = pf g (a + 0) - pf g a
    rw [Nat.add_zero]
    omega
  | k + 1 => by
    show pf _ k + g (a + k) = pf g (a + k) + g (a + k) - pf g a
    rw [pf_shift g a k]
    omega
theorem pf_same {g h : Nat → Int} {k : Nat} (e : ∀ j, j < k → g j = h j) : pf g k = pf h k := by
  have := pf_congr (g := g) (h := h) (a := 0) (b := k) (Nat.zero_le _) fun j _ hj => e j hj
  have e0 : pf g 0 = 0 := rfl
  have e1 : pf h 0 = 0 := rfl
  omega
abbrev gd (U : List Int) : Nat → Int := fun j => U.getD j 0
theorem covS_good (hw : Wts ws) : ∀ {r : List Bs} {e : Nat}, CovS ns ws r e → e ≤ ws.length → ∀ R U : List Int, (∀ j, j < e → R.getD j 0 = (rowL r.reverse).getD j 0) → (∀ j, j < e → U.getD j 0 = (pullL ns ws r.reverse).getD j 0) →
    pf (gd U) e = 0 ∧ (∀ i, i < e → 0 ≤ pf (gd U) (i + 1)) ∧ (∀ i, i < e → -ws.getD i 0 ≤ U.getD i 0 ∧ U.getD i 0 ≤ ws.getD i 0) ∧ (∀ i, i + 1 < e → R.getD i 0 ≤ R.getD (i + 1) 0) ∧
      pf (fun j => U.getD j 0 * ns.getD j 0) e = pf (fun j => ws.getD j 0 * absI (ns.getD j 0 - R.getD j 0)) e ∧ ∀ x, r.head? = some x → 0 < e ∧ R.getD (e - 1) 0 = x.l
  | _, _, .nil, _, R, U, _, _ => ⟨rfl, fun i hi => by omega, fun i hi => by omega, fun i hi => by omega, rfl, fun x hx => by cases hx⟩
  | _, _, .cons (r := r) (b := b) (a := a) (m := m) (e := e) h hp hm he hb hh, hE, R, U, hR, hU => by
    have la : (rowL r.reverse).length = a := by rw [rowL_len, totS_rev, covS_tot h]
    have lp : (pullL ns ws r.reverse).length = a := by rw [pullL_len, totS_rev, covS_tot h]
    subst he
    have er : rowL (b :: r).reverse = rowL r.reverse ++ List.replicate m b.l := by
      rw [List.reverse_cons, rowL_app]
      unfold rowL
      rw [List.map_singleton, List.flatten_singleton, hp, plc_len]
    have eu : pullL ns ws (b :: r).reverse = pullL ns ws r.reverse ++ (List.range m).map (plB ns ws a (a + m) b.l) := by
      rw [List.reverse_cons, pullL_app, ← pulls_are hw hb hE, ← hp]
      unfold pullL
      rw [List.map_singleton, List.flatten_singleton]
    have r1 : ∀ j, j < a → R.getD j 0 = (rowL r.reverse).getD j 0 := fun j hj => by
      rw [hR j (by omega), er, List.getD_eq_getElem?_getD, List.getD_eq_getElem?_getD, List.getElem?_append_left (by omega)]
    have u1 : ∀ j, j < a → U.getD j 0 = (pullL ns ws r.reverse).getD j 0 := fun j hj => by
      rw [hU j (by omega), eu, List.getD_eq_getElem?_getD, List.getD_eq_getElem?_getD, List.getElem?_append_left (by omega)]
    have r2 : ∀ k, k < m → R.getD (a + k) 0 = b.l := fun k hk => by
      rw [hR _ (by omega), er, List.getD_eq_getElem?_getD, List.getElem?_append_right (by omega), la, List.getElem?_replicate, if_pos (by omega)]
      rfl
    have u2 : ∀ k, k < m → U.getD (a + k) 0 = plB ns ws a (a + m) b.l k := fun k hk => by
      rw [hU _ (by omega), eu, List.getD_eq_getElem?_getD, List.getElem?_append_right (by omega), lp, ← List.getD_eq_getElem?_getD, show a + k - a = k by omega]
      exact range_getD _ _ hk
    obtain ⟨i1, i2, i3, i4, i5, i6⟩ := covS_good hw h (by omega) R U r1 u1
    have seg : ∀ k, k ≤ m → pf (gd U) (a + k) = pf (plB ns ws a (a + m) b.l) k := fun k hk => by
      have := pf_shift (gd U) a k
      rw [pf_same (g := fun j => gd U (a + j)) (h := plB ns ws a (a + m) b.l) fun j hj => u2 j (by omega)] at this
      omega
    refine ⟨?_, fun i hi => ?_, fun i hi => ?_, fun i hi => ?_, ?_, fun x hx => ?_⟩
    · rw [seg m (Nat.le_refl _)]
      exact pull_nil hw hb hE
    · by_cases hia : i < a
      · exact i2 i hia
      · have := seg (i + 1 - a) (by omega)
        rw [show a + (i + 1 - a) = i + 1 by omega] at this
        rw [this]
        exact pull_pos hw hb hE (by omega)
    · by_cases hia : i < a
      · exact i3 i hia
      · obtain ⟨k, rfl⟩ : ∃ k, i = a + k := ⟨i - a, by omega⟩
        rw [u2 k (by omega)]
        exact pull_bound hw (by omega)
    · by_cases hia : i + 1 < a
      · exact i4 i hia
      · by_cases hia2 : i + 1 = a
        · cases r with
          | nil => cases h; omega
          | cons x r =>
            obtain ⟨j1, j2⟩ := i6 x rfl
            rw [show i = a - 1 by omega, j2, show a - 1 + 1 = a + 0 by omega, r2 0 hm]
            exact hh x rfl
        · obtain ⟨k, rfl⟩ : ∃ k, i = a + k := ⟨i - a, by omega⟩
          rw [r2 k (by omega), Nat.add_assoc, r2 (k + 1) (by omega)]
          exact Int.le_refl _
    · have t := pull_told (ns := ns) hw (a := a) (e := a + m) (l := b.l) m
      rw [pull_nil hw hb hE, Int.mul_zero, Int.add_zero] at t
      have a1 := pf_shift (fun j => U.getD j 0 * ns.getD j 0) a m
      have a2 := pf_shift (fun j => ws.getD j 0 * absI (ns.getD j 0 - R.getD j 0)) a m
      rw [pf_same (g := fun j => U.getD (a + j) 0 * ns.getD (a + j) 0) (h := fun j => plB ns ws a (a + m) b.l j * ns.getD (a + j) 0) fun j hj => by
        show U.getD (a + j) 0 * _ = _
        rw [u2 j hj]] at a1
      rw [pf_same (g := fun j => ws.getD (a + j) 0 * absI (ns.getD (a + j) 0 - R.getD (a + j) 0)) (h := fun j => ws.getD (a + j) 0 * absI (ns.getD (a + j) 0 - b.l)) fun j hj => by
        show ws.getD (a + j) 0 * absI (_ - R.getD (a + j) 0) = _
        rw [r2 j hj]] at a2
      omega
    · cases hx
      refine ⟨by omega, ?_⟩
      rw [show a + m - 1 = a + (m - 1) by omega]
      exact r2 (m - 1) (by omega)
theorem range_sum (f : Nat → Int) : ∀ n, ((List.range n).map f).sum = pf f n
  | 0 => rfl
  | n + 1 => by
    rw [List.range_succ, List.map_append, List.sum_append, range_sum f n]
    show _ + (f n + 0) = pf f n + f n
    omega
theorem psum_pf (us : List Int) : ∀ i, i ≤ us.length → psum us i = pf (gd us) i
  | 0, _ => rfl
  | i + 1, h => by
    rw [psum_succ (by omega), psum_pf us i (by omega)]
    rfl
theorem rowS_len : (rowS ns ws).length = ns.length := by
  unfold rowS
  rw [rowL_len, totS_rev, stkS_tot]
theorem pullS_len : (pullS ns ws).length = ns.length := by
  unfold pullS
  rw [pullL_len, totS_rev, stkS_tot]
theorem sum_good (he : ws.length = ns.length) (hw : Wts ws) : SumP ns ws (rowS ns ws) (pullS ns ws) := by
  obtain ⟨h1, h2, h3, h4, h5, _⟩ := covS_good hw (stkS_cov hw he ns.length (Nat.le_refl _)) (by omega) (rowS ns ws) (pullS ns ws) (fun _ _ => rfl) (fun _ _ => rfl)
  refine ⟨rowS_len, pullS_len, up_of.mpr fun i hi => h4 i (by rw [rowS_len] at hi; exact hi), h3, fun i hi => ?_, ?_, ?_⟩
  · rw [psum_pf _ _ (by rw [pullS_len]; omega)]
    exact h2 i hi
  · rw [← psum_all, psum_pf _ _ (Nat.le_refl _), pullS_len]
    exact h1
  · unfold costS
    rw [range_sum, range_sum]
    exact h5
end
end
end U

namespace U
open PySem PySem.Spec PyProof.Rows L2 DL
section
variable {P : Program} {w : World} {K : PySem.W.Frag} {mg : Str → Option Value} {base : Heap}
local macro_rules | `(tactic| walk_at "lk") => `(tactic| first | with_reducible exact look_hit | ((with_reducible refine look_miss (by decide +kernel) ?_); walk_at "lk") | with_reducible exact look_nil)
local macro_rules | `(tactic| walk_at "fz") => `(tactic| simp only [fz, fzB, chF, Ch.d, List.map, List.set])
local macro_rules | `(tactic| walk_at "ob") => `(tactic| first
  | ((with_reducible show look _ _ = _); walk_at "lk")
  | with_reducible apply de_callO | ((with_reducible show B.d _ = _); rfl) | ((with_reducible apply de_either1); (with_reducible apply de_meth); exact de_var rfl) | ((with_reducible apply de_either2); (with_reducible apply de_meth); exact de_var rfl)
  | with_reducible exact de_cls | with_reducible apply de_fld | with_reducible apply rc_isC | with_reducible apply de_meth
  | walk_at "cl")
local macro_rules | `(tactic| walk_at "r2") => `(tactic| (fail_if_success (with_reducible show R2D _ _ D.non _ _)); (fail_if_success (with_reducible show R2D _ _ _ D.non _)); first
  | exact r2_add | exact r2_sub | exact r2_lt | exact r2_le | exact r2_gt | exact r2_ge
  | with_reducible exact r2_p30 | with_reducible exact r2_p9
  | with_reducible apply r2_mod | with_reducible apply r2_fdiv | with_reducible apply r2_mul | with_reducible apply r2_pow | with_reducible apply r2_cat | with_reducible apply r2_rep1
  | exact r2_ixT rfl | exact r2_ixL rfl | with_reducible apply r2_ixN | with_reducible apply r2_ixI
  | exact r2_eqI | exact r2_neI | exact r2_eqB | exact r2_neB | exact r2_eqL | exact r2_neL | exact r2_isB | exact r2_notB)
local macro_rules | `(tactic| walk_at "rc") => `(tactic| (fail_if_success (with_reducible show RCD _ _ [D.non] _)); (fail_if_success (with_reducible show RCD _ _ [D.non, _] _)); (fail_if_success (with_reducible show RCD _ _ [_, D.non] _)); first
  | with_reducible exact rc_srt
  | exact rc_abs | exact rc_max2 | exact rc_min2 | exact rc_sum | exact rc_all | exact rc_any | exact rc_lenL | exact rc_lenT | exact rc_listL | exact rc_listT
  | with_reducible apply rc_int | with_reducible apply rc_bool | with_reducible apply rc_list | with_reducible apply rc_tuple)
local macro_rules | `(tactic| walk_at "d1") => `(tactic| first
  | with_reducible exact de_int | with_reducible exact de_bl | with_reducible exact de_non | exact de_var rfl
  | with_reducible exact da_nil | with_reducible apply da_cons
  | with_reducible apply de_op | with_reducible apply de_un | with_reducible apply de_cb | with_reducible apply de_call
  | with_reducible apply de_tup | with_reducible apply de_lst
  | with_reducible apply de_andV | with_reducible apply de_orV | with_reducible apply de_notV | ((with_reducible show _ = true → _); intro _) | ((with_reducible show _ = false → _); intro _)
  | with_reducible apply dt_and | with_reducible apply dt_or | with_reducible apply dt_not | with_reducible apply dt_test | with_reducible apply dt_B
  | with_reducible apply de_slice | with_reducible exact do_none | with_reducible apply do_some | with_reducible apply de_rev
  | with_reducible apply de_maxD | with_reducible apply de_chain3 | with_reducible apply de_chain
  | walk_at "r2" | walk_at "rc" | walk_at "ob"
  | ((with_reducible show R1D _ _ (D.int _) _); exact r1_neg)
  | with_reducible exact de_ty
  | with_reducible exact ne_int | with_reducible exact ne_lst | with_reducible exact ne_tup | with_reducible exact ne_bl
  | ((with_reducible show List.length _ = _); rfl) | ((with_reducible show List.length _ + 1 = _); rfl)
  | (with_reducible show List.length _ ≤ 1000); exact Nat.le_of_ble_eq_true rfl)
local macro_rules | `(tactic| walk_at "dg") => `(tactic| repeat' (first | exact dg_name _ trivial | exact dg_name _ (by decide) | with_reducible exact dg_nil | with_reducible apply dg_cons | with_reducible apply dg_tup | ((with_reducible show List.length _ = _); rfl)))
local macro_rules | `(tactic| walk_at "de") => `(tactic| repeat' walk_at "d1")
local macro_rules | `(tactic| walk_at "ret") => `(tactic| (apply ds_ret; apply deo; walk_at "de"))
local macro_rules | `(tactic| walk_at "asg") => `(tactic| (apply ds_seq; apply ds_asg; apply deo; walk_at "de"))
local macro_rules | `(tactic| walk_at "drop") => `(tactic| (apply ds_seq; apply ds_drop; apply deo; walk_at "de"))
local macro_rules | `(tactic| walk_at "par") => `(tactic| (apply ds_seq; apply ds_par; apply dao; walk_at "de"))
local macro_rules | `(tactic| walk_at "parG") => `(tactic| (apply ds_seq; apply ds_asgG; apply deo; walk_at "de"; walk_at "dg"))
local macro_rules | `(tactic| walk_at "lc") => `(tactic| first | with_reducible exact lookC_hit | with_reducible exact lookC_nil | ((with_reducible refine lookC_miss (by decide +kernel) ?_); walk_at "lc"))
local macro_rules | `(tactic| walk_at "pc") => `(tactic| first | with_reducible exact putC_hit | with_reducible exact putC_nil | ((with_reducible apply putC_miss); (decide +kernel); (walk_at "pc")))
local macro_rules | `(tactic| walk_at "cl") => `(tactic| first | with_reducible exact Tx.c_Band _ | with_reducible exact Tx.i_Band _ | with_reducible exact Tx.n_Band_lows _ | with_reducible exact Tx.n_Band_highs _ | with_reducible exact Tx.c_Barred _ | with_reducible exact Tx.i_Barred _ | with_reducible exact Tx.n_Barred_first _ | with_reducible exact Tx.n_Barred_second _ | with_reducible exact Tx.c_Evened _ | with_reducible exact Tx.i_Evened _ | with_reducible exact Tx.n_Evened_row _ | with_reducible exact Tx.n_Evened_first _ | with_reducible exact Tx.n_Evened_second _ | with_reducible exact Tx.c_Squared _ | with_reducible exact Tx.i_Squared _ | with_reducible exact Tx.n_Squared_row _ | with_reducible exact Tx.c_Summed _ | with_reducible exact Tx.i_Summed _ | with_reducible exact Tx.n_Summed_row _ | with_reducible exact Tx.n_Summed_pulls _ | with_reducible exact Tx.is_Band_Barred _ | with_reducible exact Tx.is_Band_Evened _ | with_reducible exact Tx.is_Band_Squared _ | with_reducible exact Tx.is_Band_Summed _ | with_reducible exact Tx.is_Barred_Band _ | with_reducible exact Tx.is_Barred_Evened _ | with_reducible exact Tx.is_Barred_Squared _ | with_reducible exact Tx.is_Barred_Summed _ | with_reducible exact Tx.is_Evened_Band _ | with_reducible exact Tx.is_Evened_Barred _ | with_reducible exact Tx.is_Evened_Squared _ | with_reducible exact Tx.is_Evened_Summed _ | with_reducible exact Tx.is_Squared_Band _ | with_reducible exact Tx.is_Squared_Barred _ | with_reducible exact Tx.is_Squared_Evened _ | with_reducible exact Tx.is_Squared_Summed _ | with_reducible exact Tx.is_Summed_Band _ | with_reducible exact Tx.is_Summed_Barred _ | with_reducible exact Tx.is_Summed_Evened _ | with_reducible exact Tx.is_Summed_Squared _| with_reducible exact (Tx.i_Band _).me | with_reducible exact (Tx.i_Barred _).me | with_reducible exact (Tx.i_Evened _).me | with_reducible exact (Tx.i_Squared _).me | with_reducible exact (Tx.i_Summed _).me)
local macro_rules | `(tactic| walk_at "d1") => `(tactic| first | exact c_common | with_reducible apply c_is_number)
local macro_rules | `(tactic| walk_at "d1") => `(tactic| with_reducible apply c_lowest)
local macro_rules | `(tactic| walk_at "d1") => `(tactic| with_reducible apply c_are_numbers)
local macro_rules | `(tactic| walk_at "d1") => `(tactic| with_reducible apply c_check_numbers)
local macro_rules | `(tactic| walk_at "d1") => `(tactic| with_reducible apply c_check_row)
local macro_rules | `(tactic| walk_at "d1") => `(tactic| with_reducible apply c_check_weights)
local macro_rules | `(tactic| walk_at "d1") => `(tactic| with_reducible apply c_greatest_of)
local macro_rules | `(tactic| walk_at "d1") => `(tactic| with_reducible apply c_sum_of)
local macro_rules | `(tactic| walk_at "d1") => `(tactic| first | with_reducible apply c_greatest | with_reducible apply c_summed_up | with_reducible exact c_is_fraction)
local macro_rules | `(tactic| walk_at "d1") => `(tactic| first | with_reducible exact c__law_whole2 | with_reducible apply c__law_whole)
local macro_rules | `(tactic| walk_at "d1") => `(tactic| with_reducible first | exact div21 | exact div3 | exact div2 | exact div5 | exact div7 | exact div30 | exact div230 | exact pos21 | exact pos2 | exact pos3 | exact pos5 | exact pos7 | exact pos9 | exact pos12 | exact posE30 | exact posE9 | exact mul2 | exact mul2l | exact mul3l)
local macro_rules | `(tactic| walk_at "d1") => `(tactic| first | with_reducible apply c__law_numbers | with_reducible apply c__law_weights)
local macro_rules | `(tactic| walk_at "d1") => `(tactic| with_reducible apply c_rises)
local macro_rules | `(tactic| walk_at "d1") => `(tactic| with_reducible apply c_highest_so_far)
local macro_rules | `(tactic| walk_at "d1") => `(tactic| with_reducible apply c_worst_places)
local macro_rules | `(tactic| walk_at "d1") => `(tactic| with_reducible apply c_Evened_shows)
local macro_rules | `(tactic| walk_at "d1") => `(tactic| with_reducible apply c__law_rises)
local macro_rules | `(tactic| walk_at "d1") => `(tactic| first | with_reducible apply c__law_even | with_reducible apply c__law_whole | with_reducible exact c__law_whole2)
local macro_rules | `(tactic| walk_at "d1") => `(tactic| first | with_reducible apply c_Band_shows | with_reducible exact c_Barred_shows)
local macro_rules | `(tactic| walk_at "d1") => `(tactic| with_reducible apply c_from_nought)
/-! ## the law's own reckoning -/
theorem max_abs (n r : Int) : maxI (n - r) (r - n) = absI (n - r) := by
  unfold maxI absI
  split <;> split <;> omega
def R__law_summed (ds : List D) (d : D) : Prop := ∃ ns ws rs us : List Int, ds = [.lst (dI ns), .lst (dI ws), .lst (dI rs), .lst (dI us)] ∧ SmIn ns ws us ∧ rs.length ≤ 1000 ∧ us.length ≤ 1000 ∧ d = .bl (sumOk ns ws rs us)
theorem ok__law_summed (T : Tx K mg base) : FnOk P w K mg base CX0 2 T.a__law_summed T.d__law_summed ["_law_numbers_here", "_law_weights_here", "_law_row", "_law_pulls"] (spR K 4 R__law_summed) := by
  refine pure_ok T.F__law_summed sc__law_summed rfl (fun cdv A outer s H E hr => ?_)
  have nd := sc__law_summed.nd
  have hu := hr.units
  refine ⟨_, (pss_cons (ps_if (PW.pt (pw_or (pt_cmpR (neK K hu) (pe_callB (lenK K) (by rfl) T.m_len bt_len (pa_cons (pv 2) pa_nil)) (pe_callB (lenK K) (by rfl) T.m_len bt_len (pa_cons (pv 0) pa_nil)) (nomark _)) (pw_or (pt_cmpR (neK K hu) (pe_callB (lenK K) (by rfl) T.m_len bt_len (pa_cons (pv 3) pa_nil)) (pe_callB (lenK K) (by rfl) T.m_len bt_len (pa_cons (pv 0) pa_nil)) (nomark _)) (pw_or1 (pt_not (pt_val (pe_call (ok__law_rises T) (hr.mono (by decide)) (by rfl) T.g__law_rises T.F__law_rises.kp T.b__law_rises .nil pass0 (pa_cons (pv 2) pa_nil)))))))) (pss_one (ps_ret pe_bl)) pss_nil)
      (pss_cons (ps_asg (pe_tup (pa_cons pe_int (pa_cons pe_int (pa_cons pe_int pa_nil)))) (pg_tupK (n := 3) K rfl (pgs_cons (pg_name (i := 4) nd rfl (by first | exact Or.inl rfl | exact Or.inr rfl)) (pgs_cons (pg_name (i := 5) nd rfl (by first | exact Or.inl rfl | exact Or.inr rfl)) (pgs_cons (pg_name (i := 6) nd rfl (by first | exact Or.inl rfl | exact Or.inr rfl)) pgs_nil)))))
      (pss_cons (ps_for PassesOwn.never rfl (pi_range1 (by rfl) T.m_range (pa_cons (pe_callB (lenK K) (by rfl) T.m_len bt_len (pa_cons (pv 0) pa_nil)) pa_nil)) (pg_name (i := 7) nd rfl (by first | exact Or.inl rfl | exact Or.inr rfl)) (pss_cons (ps_if (pt_not (pt_chain op_le op_le (pe_un un_neg (pe_ix (ixK K) (pv 1) (pv 7) (fun _ _ => rfl))) (pe_ix (ixK K) (pv 3) (pv 7) (fun _ _ => rfl)) (pe_ix (ixK K) (pv 1) (pv 7) (fun _ _ => rfl)))) (pss_one (ps_ret pe_bl)) pss_nil)
      (pss_cons (ps_set (i := 4) nd rfl (by first | exact Or.inl rfl | exact Or.inr rfl) (pe_op (addK K) (pv 4) (pe_ix (ixK K) (pv 3) (pv 7) (fun _ _ => rfl))))
      (pss_cons (ps_set (i := 5) nd rfl (by first | exact Or.inl rfl | exact Or.inr rfl) (pe_op (addK K) (pv 5) (pe_op (mulK K) (pe_ix (ixK K) (pv 3) (pv 7) (fun _ _ => rfl)) (pe_ix (ixK K) (pv 0) (pv 7) (fun _ _ => rfl)))))
      (pss_cons (ps_set (i := 6) nd rfl (by first | exact Or.inl rfl | exact Or.inr rfl) (pe_op (addK K) (pv 6) (pe_op (mulK K) (pe_ix (ixK K) (pv 1) (pv 7) (fun _ _ => rfl)) (pe_callB (call_max2 rfl) (by rfl) T.m_max bt_max (pa_cons (pe_op op_sub (pe_ix (ixK K) (pv 0) (pv 7) (fun _ _ => rfl)) (pe_ix (ixK K) (pv 2) (pv 7) (fun _ _ => rfl))) (pa_cons (pe_op op_sub (pe_ix (ixK K) (pv 2) (pv 7) (fun _ _ => rfl)) (pe_ix (ixK K) (pv 0) (pv 7) (fun _ _ => rfl))) pa_nil))))))
      (pss_one (ps_if (pt_cmpR op_lt (pv 4) pe_int (nomark _)) (pss_one (ps_ret pe_bl)) pss_nil)))))))
      (pss_one (ps_ret (pe_and (pe_cmpR (eqK K hu) (pv 4) pe_int (nomark _)) (pe_one (pe_cmpR (eqK K hu) (pv 5) (pv 6) (nomark _))))))))), fun ds d h => ?_⟩
  obtain ⟨ns, ws, rs, us, rfl, hS, hr, hu, rfl⟩ := h
  change DS _ _ [B.im _, B.im _, B.im _, B.im _, B.no, B.no, B.no, B.no] _
  have h63 := hS.l
  have hwe := hS.e
  apply ds_seq
  apply ds_if
  · apply dto
    walk_at "de"
    exact hr
  · intro hb
    walk_at "ret"
    refine sum_no fun z => ?_
    simp [z.lr, z.lu, z.up] at hb
  intro hb
  apply ds_next
  simp at hb
  obtain ⟨h1, h2, h3⟩ : rs.length = ns.length ∧ us.length = ns.length ∧ up rs = true := ⟨by omega, by omega, by simp [hb]⟩
  apply ds_seq
  refine ds_asgG (d := .tup [.int 0, .int 0, .int 0]) (deo (de_tup (da_cons de_int (da_cons de_int (da_cons de_int da_nil))) (Nat.le_of_ble_eq_true rfl))) (dg_tup (dg_cons (dg_name _ trivial) (dg_cons (dg_name _ trivial) (dg_cons (dg_name _ trivial) dg_nil))) rfl) ?_
  apply ds_seq
  apply ds_for (I := fun i Γ' => (∃ b7, Γ' = [.im (.lst (dI ns)), .im (.lst (dI ws)), .im (.lst (dI rs)), .im (.lst (dI us)), .im (.int (pf (gd us) i)), .im (.int (pf (fun j => us.getD j 0 * ns.getD j 0) i)), .im (.int (pf (fun j => ws.getD j 0 * absI (ns.getD j 0 - rs.getD j 0)) i)), b7]) ∧
    ∀ j, j < i → (-ws.getD j 0 ≤ us.getD j 0 ∧ us.getD j 0 ≤ ws.getD j 0) ∧ 0 ≤ pf (gd us) (j + 1))
  · exact di_rng1 (da_cons (de_cb (da_cons (de_var rfl) da_nil) rc_lenL) da_nil) (by rw [List.length_map]; omega)
  · exact ⟨⟨_, rfl⟩, fun j hj => by omega⟩
  · rintro i d Γ' hd ⟨⟨b7, rfl⟩, hI⟩
    obtain ⟨hi, rfl⟩ := map_get 0 hd
    rw [List.length_range, List.length_map] at hi
    have ei : (List.range (dI ns).length).getD i 0 = i := by
      rw [List.getD_eq_getElem?_getD, List.getElem?_range (by rw [List.length_map]; exact hi)]
      rfl
    rw [ei]
    have hiw : i < ws.length := by omega
    have hiu : i < us.length := by omega
    have hir : i < rs.length := by omega
    refine ⟨_, dg_name _ trivial, ?_⟩
    apply ds_seq
    apply ds_if (b := !(decide (-ws.getD i 0 ≤ us.getD i 0) && decide (us.getD i 0 ≤ ws.getD i 0)))
    · apply dto
      refine dt_not (dt_test (de_chain (de_un (de_op (de_var rfl) (de_var rfl) (r2_ixN hiw)) r1_neg) (de_op (de_var rfl) (de_var rfl) (r2_ixN hiu)) r2_le (fun _ => de_op (de_var rfl) (de_var rfl) (r2_ixN hiw)) fun _ => r2_le))
    · intro hb
      walk_at "ret"
      refine sum_no fun z => ?_
      have := z.pl i hi
      rw [decide_eq_true this.1, decide_eq_true this.2] at hb
      cases hb
    intro hb
    simp only [Bool.not_eq_false', Bool.and_eq_true, decide_eq_true_eq] at hb
    apply ds_next
    apply ds_seq
    apply ds_asg (d := .int (pf (gd us) (i + 1)))
    · exact deo (de_op (de_var rfl) (de_op (de_var rfl) (de_var rfl) (r2_ixN hiu)) r2_add)
    apply ds_seq
    apply ds_asg (d := .int (pf (fun j => us.getD j 0 * ns.getD j 0) (i + 1)))
    · exact deo (de_op (de_var rfl) (de_op (de_op (de_var rfl) (de_var rfl) (r2_ixN hiu)) (de_op (de_var rfl) (de_var rfl) (r2_ixN hi)) (r2_mul (hS.mul hi h2))) r2_add)
    apply ds_seq
    apply ds_asg (d := .int (pf (fun j => ws.getD j 0 * absI (ns.getD j 0 - rs.getD j 0)) (i + 1)))
    · apply deo
      show DE _ _ _ (.int (pf _ i + ws.getD i 0 * absI (ns.getD i 0 - rs.getD i 0)))
      rw [← max_abs]
      refine de_op (de_var rfl) (de_op (de_op (de_var rfl) (de_var rfl) (r2_ixN hiw)) (de_cb (da_cons ?_ (da_cons ?_ da_nil)) rc_max2) (r2_mul (hS.w.cmul hiw _))) r2_add
      · exact de_op (de_op (de_var rfl) (de_var rfl) (r2_ixN hi)) (de_op (de_var rfl) (de_var rfl) (r2_ixN hir)) r2_sub
      · exact de_op (de_op (de_var rfl) (de_var rfl) (r2_ixN hir)) (de_op (de_var rfl) (de_var rfl) (r2_ixN hi)) r2_sub
    apply ds_if (b := decide (pf (gd us) (i + 1) < 0))
    · exact dto (dt_test (de_op (de_var rfl) de_int r2_lt))
    · intro hb2
      have hb2' := of_decide_eq_true hb2
      walk_at "ret"
      refine sum_no fun z => ?_
      have := z.pos i hi
      rw [psum_pf _ _ (by omega)] at this
      omega
    · intro hb2
      have hb2' := of_decide_eq_false hb2
      refine ds_next ⟨⟨_, rfl⟩, fun j hj => ?_⟩
      by_cases e : j = i
      · subst e
        exact ⟨hb, by omega⟩
      · exact hI j (by omega)
  · rintro Γ' ⟨⟨b7, rfl⟩, hI⟩
    rw [List.length_map, List.length_range, List.length_map] at hI ⊢
    refine ds_ret (d := .bl (decide (pf (gd us) ns.length = 0) && decide (pf (fun j => us.getD j 0 * ns.getD j 0) ns.length = pf (fun j => ws.getD j 0 * absI (ns.getD j 0 - rs.getD j 0)) ns.length))) (deo (de_andV (de_op (de_var rfl) de_int r2_eqI) fun _ => de_op (de_var rfl) (de_var rfl) r2_eqI)) ?_
    refine sum_is ?_
    have e1 : us.sum = pf (gd us) ns.length := by rw [← psum_all, psum_pf _ _ (Nat.le_refl _), h2]
    have e2 : ((List.range ns.length).map fun i => us.getD i 0 * ns.getD i 0).sum = pf (fun j => us.getD j 0 * ns.getD j 0) ns.length := range_sum _ _
    have e3 : costS ns rs ws = pf (fun j => ws.getD j 0 * absI (ns.getD j 0 - rs.getD j 0)) ns.length := range_sum _ _
    rw [Bool.and_eq_true, decide_eq_true_eq, decide_eq_true_eq, ← e1, ← e2, ← e3]
    refine ⟨fun h => ⟨h1, h2, h3, fun i hi => (hI i hi).1, fun i hi => ?_, h.1, h.2⟩, fun h => ⟨h.nil, h.told⟩⟩
    rw [psum_pf _ _ (by omega)]
    exact (hI i hi).2
theorem c__law_summed {ns ws rs us : List Int} (h : SmIn ns ws us) (hr : rs.length ≤ 1000) (hu : us.length ≤ 1000) : R__law_summed [.lst (dI ns), .lst (dI ws), .lst (dI rs), .lst (dI us)] (.bl (sumOk ns ws rs us)) := ⟨_, _, _, _, rfl, h, hr, hu, rfl⟩
end
end U

namespace U
open PySem PySem.Spec PyProof.Rows L2 DL
section
variable {P : Program} {w : World} {K : PySem.W.Frag} {mg : Str → Option Value} {base : Heap}
local macro_rules | `(tactic| walk_at "lk") => `(tactic| first | with_reducible exact look_hit | ((with_reducible refine look_miss (by decide +kernel) ?_); walk_at "lk") | with_reducible exact look_nil)
local macro_rules | `(tactic| walk_at "fz") => `(tactic| simp only [fz, fzB, chF, Ch.d, List.map, List.set])
local macro_rules | `(tactic| walk_at "ob") => `(tactic| first
  | ((with_reducible show look _ _ = _); walk_at "lk")
  | with_reducible apply de_callO | ((with_reducible show B.d _ = _); rfl) | ((with_reducible apply de_either1); (with_reducible apply de_meth); exact de_var rfl) | ((with_reducible apply de_either2); (with_reducible apply de_meth); exact de_var rfl)
  | with_reducible exact de_cls | with_reducible apply de_fld | with_reducible apply rc_isC | with_reducible apply de_meth
  | walk_at "cl")
local macro_rules | `(tactic| walk_at "r2") => `(tactic| (fail_if_success (with_reducible show R2D _ _ D.non _ _)); (fail_if_success (with_reducible show R2D _ _ _ D.non _)); first
  | exact r2_add | exact r2_sub | exact r2_lt | exact r2_le | exact r2_gt | exact r2_ge
  | with_reducible exact r2_p30 | with_reducible exact r2_p9
  | with_reducible apply r2_mod | with_reducible apply r2_fdiv | with_reducible apply r2_mul | with_reducible apply r2_pow | with_reducible apply r2_cat | with_reducible apply r2_rep1
  | exact r2_ixT rfl | exact r2_ixL rfl | with_reducible apply r2_ixN | with_reducible apply r2_ixI
  | exact r2_eqI | exact r2_neI | exact r2_eqB | exact r2_neB | exact r2_eqL | exact r2_neL | exact r2_isB | exact r2_notB)
local macro_rules | `(tactic| walk_at "rc") => `(tactic| (fail_if_success (with_reducible show RCD _ _ [D.non] _)); (fail_if_success (with_reducible show RCD _ _ [D.non, _] _)); (fail_if_success (with_reducible show RCD _ _ [_, D.non] _)); first
  | with_reducible exact rc_srt
  | exact rc_abs | exact rc_max2 | exact rc_min2 | exact rc_sum | exact rc_all | exact rc_any | exact rc_lenL | exact rc_lenT | exact rc_listL | exact rc_listT
  | with_reducible apply rc_int | with_reducible apply rc_bool | with_reducible apply rc_list | with_reducible apply rc_tuple)
local macro_rules | `(tactic| walk_at "d1") => `(tactic| first
  | with_reducible exact de_int | with_reducible exact de_bl | with_reducible exact de_non | exact de_var rfl
  | with_reducible exact da_nil | with_reducible apply da_cons
  | with_reducible apply de_op | with_reducible apply de_un | with_reducible apply de_cb | with_reducible apply de_call
  | with_reducible apply de_tup | with_reducible apply de_lst
  | with_reducible apply de_andV | with_reducible apply de_orV | with_reducible apply de_notV | ((with_reducible show _ = true → _); intro _) | ((with_reducible show _ = false → _); intro _)
  | with_reducible apply dt_and | with_reducible apply dt_or | with_reducible apply dt_not | with_reducible apply dt_test | with_reducible apply dt_B
  | with_reducible apply de_slice | with_reducible exact do_none | with_reducible apply do_some | with_reducible apply de_rev
  | with_reducible apply de_maxD | with_reducible apply de_chain3 | with_reducible apply de_chain
  | walk_at "r2" | walk_at "rc" | walk_at "ob"
  | ((with_reducible show R1D _ _ (D.int _) _); exact r1_neg)
  | with_reducible exact de_ty
  | with_reducible exact ne_int | with_reducible exact ne_lst | with_reducible exact ne_tup | with_reducible exact ne_bl
  | ((with_reducible show List.length _ = _); rfl) | ((with_reducible show List.length _ + 1 = _); rfl)
  | (with_reducible show List.length _ ≤ 1000); exact Nat.le_of_ble_eq_true rfl)
local macro_rules | `(tactic| walk_at "dg") => `(tactic| repeat' (first | exact dg_name _ trivial | exact dg_name _ (by decide) | with_reducible exact dg_nil | with_reducible apply dg_cons | with_reducible apply dg_tup | ((with_reducible show List.length _ = _); rfl)))
local macro_rules | `(tactic| walk_at "de") => `(tactic| repeat' walk_at "d1")
local macro_rules | `(tactic| walk_at "ret") => `(tactic| (apply ds_ret; apply deo; walk_at "de"))
local macro_rules | `(tactic| walk_at "asg") => `(tactic| (apply ds_seq; apply ds_asg; apply deo; walk_at "de"))
local macro_rules | `(tactic| walk_at "drop") => `(tactic| (apply ds_seq; apply ds_drop; apply deo; walk_at "de"))
local macro_rules | `(tactic| walk_at "par") => `(tactic| (apply ds_seq; apply ds_par; apply dao; walk_at "de"))
local macro_rules | `(tactic| walk_at "parG") => `(tactic| (apply ds_seq; apply ds_asgG; apply deo; walk_at "de"; walk_at "dg"))
local macro_rules | `(tactic| walk_at "lc") => `(tactic| first | with_reducible exact lookC_hit | with_reducible exact lookC_nil | ((with_reducible refine lookC_miss (by decide +kernel) ?_); walk_at "lc"))
local macro_rules | `(tactic| walk_at "pc") => `(tactic| first | with_reducible exact putC_hit | with_reducible exact putC_nil | ((with_reducible apply putC_miss); (decide +kernel); (walk_at "pc")))
local macro_rules | `(tactic| walk_at "cl") => `(tactic| first | with_reducible exact Tx.c_Band _ | with_reducible exact Tx.i_Band _ | with_reducible exact Tx.n_Band_lows _ | with_reducible exact Tx.n_Band_highs _ | with_reducible exact Tx.c_Barred _ | with_reducible exact Tx.i_Barred _ | with_reducible exact Tx.n_Barred_first _ | with_reducible exact Tx.n_Barred_second _ | with_reducible exact Tx.c_Evened _ | with_reducible exact Tx.i_Evened _ | with_reducible exact Tx.n_Evened_row _ | with_reducible exact Tx.n_Evened_first _ | with_reducible exact Tx.n_Evened_second _ | with_reducible exact Tx.c_Squared _ | with_reducible exact Tx.i_Squared _ | with_reducible exact Tx.n_Squared_row _ | with_reducible exact Tx.c_Summed _ | with_reducible exact Tx.i_Summed _ | with_reducible exact Tx.n_Summed_row _ | with_reducible exact Tx.n_Summed_pulls _ | with_reducible exact Tx.is_Band_Barred _ | with_reducible exact Tx.is_Band_Evened _ | with_reducible exact Tx.is_Band_Squared _ | with_reducible exact Tx.is_Band_Summed _ | with_reducible exact Tx.is_Barred_Band _ | with_reducible exact Tx.is_Barred_Evened _ | with_reducible exact Tx.is_Barred_Squared _ | with_reducible exact Tx.is_Barred_Summed _ | with_reducible exact Tx.is_Evened_Band _ | with_reducible exact Tx.is_Evened_Barred _ | with_reducible exact Tx.is_Evened_Squared _ | with_reducible exact Tx.is_Evened_Summed _ | with_reducible exact Tx.is_Squared_Band _ | with_reducible exact Tx.is_Squared_Barred _ | with_reducible exact Tx.is_Squared_Evened _ | with_reducible exact Tx.is_Squared_Summed _ | with_reducible exact Tx.is_Summed_Band _ | with_reducible exact Tx.is_Summed_Barred _ | with_reducible exact Tx.is_Summed_Evened _ | with_reducible exact Tx.is_Summed_Squared _| with_reducible exact (Tx.i_Band _).me | with_reducible exact (Tx.i_Barred _).me | with_reducible exact (Tx.i_Evened _).me | with_reducible exact (Tx.i_Squared _).me | with_reducible exact (Tx.i_Summed _).me)
local macro_rules | `(tactic| walk_at "d1") => `(tactic| first | exact c_common | with_reducible apply c_is_number)
local macro_rules | `(tactic| walk_at "d1") => `(tactic| with_reducible apply c_lowest)
local macro_rules | `(tactic| walk_at "d1") => `(tactic| with_reducible apply c_are_numbers)
local macro_rules | `(tactic| walk_at "d1") => `(tactic| with_reducible apply c_check_numbers)
local macro_rules | `(tactic| walk_at "d1") => `(tactic| with_reducible apply c_check_row)
local macro_rules | `(tactic| walk_at "d1") => `(tactic| with_reducible apply c_check_weights)
local macro_rules | `(tactic| walk_at "d1") => `(tactic| with_reducible apply c_greatest_of)
local macro_rules | `(tactic| walk_at "d1") => `(tactic| with_reducible apply c_sum_of)
local macro_rules | `(tactic| walk_at "d1") => `(tactic| first | with_reducible apply c_greatest | with_reducible apply c_summed_up | with_reducible exact c_is_fraction)
local macro_rules | `(tactic| walk_at "d1") => `(tactic| first | with_reducible exact c__law_whole2 | with_reducible apply c__law_whole)
local macro_rules | `(tactic| walk_at "d1") => `(tactic| with_reducible first | exact div21 | exact div3 | exact div2 | exact div5 | exact div7 | exact div30 | exact div230 | exact pos21 | exact pos2 | exact pos3 | exact pos5 | exact pos7 | exact pos9 | exact pos12 | exact posE30 | exact posE9 | exact mul2 | exact mul2l | exact mul3l)
local macro_rules | `(tactic| walk_at "d1") => `(tactic| first | with_reducible apply c__law_numbers | with_reducible apply c__law_weights)
local macro_rules | `(tactic| walk_at "d1") => `(tactic| with_reducible apply c_rises)
local macro_rules | `(tactic| walk_at "d1") => `(tactic| with_reducible apply c_highest_so_far)
local macro_rules | `(tactic| walk_at "d1") => `(tactic| with_reducible apply c_worst_places)
local macro_rules | `(tactic| walk_at "d1") => `(tactic| with_reducible apply c_Evened_shows)
local macro_rules | `(tactic| walk_at "d1") => `(tactic| with_reducible apply c__law_rises)
local macro_rules | `(tactic| walk_at "d1") => `(tactic| first | with_reducible apply c__law_even | with_reducible apply c__law_whole | with_reducible exact c__law_whole2)
local macro_rules | `(tactic| walk_at "d1") => `(tactic| first | with_reducible apply c_Band_shows | with_reducible exact c_Barred_shows)
local macro_rules | `(tactic| walk_at "d1") => `(tactic| with_reducible apply c_from_nought)
/-! ## what is said; a row bent -/
def R__law_says (ds : List D) (d : D) : Prop := ∃ a b : Bool, ds = [.bl a, .bl b] ∧ d = .bl (decide (a = b))
theorem ok__law_says (T : Tx K mg base) : FnOk P w K mg base CX0 1 T.a__law_says T.d__law_says ["_law_said", "_law_due"] (spR K 2 R__law_says) := by
  refine pure_ok T.F__law_says sc__law_says rfl (fun cdv A outer s H E hr => ?_)
  have nd := sc__law_says.nd
  have hu := hr.units
  refine ⟨_, (pss_one (ps_ret (pe_and (pe_callB (isiK K) (by rfl) T.m_isinstance bt_isinstance (pa_cons (pv 0) (pa_cons (pe_bltn (v := .ty "bool") (by rfl) T.m_bool bt_bool rfl) pa_nil))) (pe_one (pe_cmpR (eqK K hu) (pv 0) (pv 1) (nomark _)))))), fun ds d h => ?_⟩
  obtain ⟨a, b, rfl, rfl⟩ := h
  change DS _ _ [B.im _, B.im _] _
  walk_at "ret"
  rfl
theorem c__law_says {a b : Bool} : R__law_says [.bl a, .bl b] (.bl (decide (a = b))) := ⟨_, _, rfl, rfl⟩
local macro_rules | `(tactic| walk_at "d1") => `(tactic| with_reducible exact c__law_says)
def b0 (xs : List Int) (c : Int) (a : Nat) : List Int := if (c % 13 = 0 ∧ xs ≠ []) then xs.set a (xs.getD a 0 + c / 169 % 3 - 1) else xs
def b1 (xs : List Int) (c : Int) (a : Nat) : List Int := if (c % 13 = 1 ∧ xs ≠ []) then (xs.set a (xs.getD 0 0)).set 0 (xs.getD a 0) else xs
def b2 (xs : List Int) (c : Int) (a : Nat) : List Int := if c % 13 = 2 then xs.take a ++ xs.drop (a + 1) else xs
def b3 (xs : List Int) (c : Int) (a : Nat) : List Int := if c % 13 = 3 then (xs.take a ++ [c / 169 % 5 - 2]) ++ xs.drop a else xs
def bAt (xs : List Int) (c : Int) : Nat := (c / 13 % maxI 1 (xs.length : Int)).toNat
def bentStep (xs : List Int) (c : Int) : List Int := b3 (b2 (b1 (b0 xs c (bAt xs c)) c (bAt xs c)) c (bAt xs c)) c (bAt xs c)
def bent (xs s : List Int) : List Int := s.foldl bentStep xs
theorem b0_len {xs : List Int} {c : Int} {a : Nat} : (b0 xs c a).length = xs.length := by
  unfold b0
  split
  · rw [List.length_set]
  · rfl
theorem b1_len {xs : List Int} {c : Int} {a : Nat} : (b1 xs c a).length = xs.length := by
  unfold b1
  split
  · rw [List.length_set, List.length_set]
  · rfl
theorem b2_len {xs : List Int} {c : Int} {a : Nat} : (b2 xs c a).length ≤ xs.length := by
  unfold b2
  split
  · rw [List.length_append, List.length_take, List.length_drop]
    omega
  · exact Nat.le_refl _
theorem b3_len {xs : List Int} {c : Int} {a : Nat} : (b3 xs c a).length ≤ xs.length + 1 := by
  unfold b3
  split
  · rw [List.length_append, List.length_append, List.length_take, List.length_drop, List.length_singleton]
    omega
  · omega
theorem bentStep_len (xs : List Int) (c : Int) : (bentStep xs c).length ≤ xs.length + 1 := by
  unfold bentStep
  have h0 := b0_len (xs := xs) (c := c) (a := bAt xs c)
  have h1 := b1_len (xs := b0 xs c (bAt xs c)) (c := c) (a := bAt xs c)
  have h2 := b2_len (xs := b1 (b0 xs c (bAt xs c)) c (bAt xs c)) (c := c) (a := bAt xs c)
  have h3 := b3_len (xs := b2 (b1 (b0 xs c (bAt xs c)) c (bAt xs c)) c (bAt xs c)) (c := c) (a := bAt xs c)
  omega
theorem bent_len : ∀ (s xs : List Int), (bent xs s).length ≤ xs.length + s.length
  | [], xs => Nat.le_refl _
  | c :: s, xs => by
    have h := bent_len s (bentStep xs c)
    have h2 := bentStep_len xs c
    rw [List.length_cons]
    show (bent (bentStep xs c) s).length ≤ _
    omega
/-- how great its numbers are -/
structure Mx (m : Nat) (xs : List Int) : Prop where
  h : ∀ x ∈ xs, x.natAbs ≤ m
theorem Mx.up {m n : Nat} {xs : List Int} (h : Mx m xs) (e : m ≤ n) : Mx n xs := ⟨fun x hx => Nat.le_trans (h.h x hx) e⟩
theorem Mx.set {m : Nat} {xs : List Int} {i : Nat} {v : Int} (h : Mx m xs) (hv : v.natAbs ≤ m) : Mx m (xs.set i v) := ⟨fun x hx => by
  rcases List.mem_or_eq_of_mem_set hx with hx | rfl
  · exact h.h x hx
  · exact hv⟩
theorem Mx.get {m : Nat} {xs : List Int} (h : Mx m xs) (i : Nat) : (xs.getD i 0).natAbs ≤ m := by
  by_cases hi : i < xs.length
  · exact h.h _ (getD_mem hi)
  · rw [List.getD_eq_getElem?_getD, List.getElem?_eq_none (by omega)]
    exact Nat.zero_le _
theorem Mx.app {m : Nat} {xs ys : List Int} (h : Mx m xs) (k : Mx m ys) : Mx m (xs ++ ys) := ⟨fun x hx => by
  rcases List.mem_append.mp hx with hx | hx
  · exact h.h x hx
  · exact k.h x hx⟩
theorem Mx.take {m : Nat} {xs : List Int} (h : Mx m xs) (i : Nat) : Mx m (xs.take i) := ⟨fun x hx => h.h x (List.mem_of_mem_take hx)⟩
theorem Mx.drop {m : Nat} {xs : List Int} (h : Mx m xs) (i : Nat) : Mx m (xs.drop i) := ⟨fun x hx => h.h x (List.mem_of_mem_drop hx)⟩
theorem bentStep_mx {m : Nat} (h2 : 2 ≤ m) {xs : List Int} {c : Int} (h : Mx m xs) : Mx (m + 1) (bentStep xs c) := by
  unfold bentStep
  have hb0 : Mx (m + 1) (b0 xs c (bAt xs c)) := by
    unfold b0
    split
    · have g := h.get (bAt xs c)
      have z1 := Int.emod_nonneg (c / 169) (show (3 : Int) ≠ 0 by decide)
      have z2 := Int.emod_lt_of_pos (c / 169) (show (0 : Int) < 3 by decide)
      exact (h.up (by omega)).set (by omega)
    · exact h.up (by omega)
  generalize b0 xs c (bAt xs c) = y0 at *
  have hb1 : Mx (m + 1) (b1 y0 c (bAt xs c)) := by
    unfold b1
    split
    · exact (hb0.set (hb0.get 0)).set (hb0.get _)
    · exact hb0
  generalize b1 y0 c (bAt xs c) = y1 at *
  have hb2 : Mx (m + 1) (b2 y1 c (bAt xs c)) := by
    unfold b2
    split
    · exact (hb1.take _).app (hb1.drop _)
    · exact hb1
  generalize b2 y1 c (bAt xs c) = y2 at *
  unfold b3
  split
  · refine ((hb2.take _).app ⟨fun x hx => ?_⟩).app (hb2.drop _)
    rw [List.mem_singleton.mp hx]
    have z1 := Int.emod_nonneg (c / 169) (show (5 : Int) ≠ 0 by decide)
    have z2 := Int.emod_lt_of_pos (c / 169) (show (0 : Int) < 5 by decide)
    omega
  · exact hb2
theorem bent_mx {m : Nat} (h2 : 2 ≤ m) : ∀ {s xs : List Int}, Mx m xs → Mx (m + s.length) (bent xs s)
  | [], xs, h => h
  | c :: s, xs, h => by
    have z := bent_mx (m := m + 1) (by omega) (s := s) (bentStep_mx h2 (c := c) h)
    rw [List.length_cons]
    exact z.up (by omega)
theorem cut_takeN (xs : List D) (n : Nat) : DL.cutD xs none (some (n : Int)) = xs.take n := by
  unfold DL.cutD
  rw [HT.sIx_nat]
  show (xs.drop 0).take (min n xs.length - 0) = _
  rw [List.drop_zero, Nat.sub_zero]
  rcases Nat.le_total n xs.length with h | h
  · rw [Nat.min_eq_left h]
  · rw [Nat.min_eq_right h, List.take_length, List.take_of_length_le h]
theorem cut_dropN (xs : List D) (n : Nat) : DL.cutD xs (some (n : Int)) none = xs.drop n := by
  unfold DL.cutD
  rw [HT.sIx_nat]
  show (xs.drop (min n xs.length)).take (xs.length - min n xs.length) = _
  rcases Nat.le_total n xs.length with h | h
  · rw [Nat.min_eq_left h, List.take_of_length_le (by rw [List.length_drop]; omega)]
  · rw [Nat.min_eq_right h, List.drop_length, List.take_nil, List.drop_of_length_le h]
theorem dI_take (xs : List Int) (n : Nat) : (dI xs).take n = dI (xs.take n) := List.map_take.symm
theorem dI_drop (xs : List Int) (n : Nat) : (dI xs).drop n = dI (xs.drop n) := List.map_drop.symm
theorem dI_set (xs : List Int) (n : Nat) (v : Int) : (dI xs).set n (.int v) = dI (xs.set n v) := by
  unfold dI
  rw [List.map_set]
theorem dI_flat (xs : List Int) : (dI xs).all flat = true := by
  unfold dI
  rw [List.all_map]
  exact List.all_eq_true.mpr fun x _ => rfl
theorem div13 : CDivW x 13 := ⟨by decide, by decide⟩
theorem div169 : CDivW x 169 := ⟨by decide, by decide⟩
theorem pos13 : (0 : Int) < 13 := by decide
local macro_rules | `(tactic| walk_at "d1") => `(tactic| with_reducible first | exact div13 | exact div169 | exact pos13)
theorem ix_nat {n k : Nat} (h : k < n) : ixN n (k : Int) = some k := by
  unfold ixN
  rw [if_pos (by omega), if_pos (by omega), Int.toNat_natCast]
def R__law_bent (ds : List D) (d : D) : Prop := ∃ xs s : List Int, ds = [.lst (dI xs), .lst (dI s)] ∧ xs.length ≤ 200 ∧ s.length ≤ 63 ∧ d = .lst (dI (bent xs s))
theorem ok__law_bent (T : Tx K mg base) : FnOk P w K mg base CX0 1 T.a__law_bent T.d__law_bent ["_law_row", "_law_script"] (spR K 2 R__law_bent) := by
  refine pure_ok T.F__law_bent sc__law_bent rfl (fun cdv A outer s H E hr => ?_)
  have nd := sc__law_bent.nd
  have hu := hr.units
  refine ⟨_, (pss_cons (ps_set (i := 2) nd rfl (by first | exact Or.inl rfl | exact Or.inr rfl) (pe_callTy (listK K) (by rfl) T.m_list bt_list (pa_cons (pv 0) pa_nil)))
      (pss_cons (ps_for PassesOwn.never rfl (pi_listK K (pv 1)) (pg_name (i := 3) nd rfl (by first | exact Or.inl rfl | exact Or.inr rfl)) (pss_cons (ps_set (i := 4) nd rfl (by first | exact Or.inl rfl | exact Or.inr rfl) (pe_op op_mod (pe_op op_fdivW (pv 3) pe_int) (pe_callB (call_max2 rfl) (by rfl) T.m_max bt_max (pa_cons pe_int (pa_cons (pe_callB (lenK K) (by rfl) T.m_len bt_len (pa_cons (pv 2) pa_nil)) pa_nil)))))
      (pss_cons (ps_if (PW.pt (pw_and (pt_cmpR (eqK K hu) (pe_op op_mod (pv 3) pe_int) pe_int (nomark _)) (pw_and1 (pt_cmpR (neK K hu) (pv 2) (pe_lst pa_nil) (nomark _))))) (pss_one (ps_asg (pe_op op_sub (pe_op (addK K) (pe_ix (ixK K) (pv 2) (pv 4) (fun _ _ => rfl)) (pe_op op_mod (pe_op op_fdivW (pv 3) pe_int) pe_int)) pe_int) (pg_sub (pv 2) (pv 4) set_list))) pss_nil)
      (pss_cons (ps_if (PW.pt (pw_and (pt_cmpR (eqK K hu) (pe_op op_mod (pv 3) pe_int) pe_int (nomark _)) (pw_and1 (pt_cmpR (neK K hu) (pv 2) (pe_lst pa_nil) (nomark _))))) (pss_one (ps_asg (pe_tup (pa_cons (pe_ix (ixK K) (pv 2) pe_int (fun _ _ => rfl)) (pa_cons (pe_ix (ixK K) (pv 2) (pv 4) (fun _ _ => rfl)) pa_nil))) (pg_tupK (n := 2) K rfl (pgs_cons (pg_sub (pv 2) (pv 4) set_list) (pgs_cons (pg_sub (pv 2) pe_int set_list) pgs_nil))))) pss_nil)
      (pss_cons (ps_if (pt_cmpR (eqK K hu) (pe_op op_mod (pv 3) pe_int) pe_int (nomark _)) (pss_one (ps_set (i := 2) nd rfl (by first | exact Or.inl rfl | exact Or.inr rfl) (pe_op (addK K) (pe_slice (sliceK K) (pv 2) po_none (po_some (pv 4))) (pe_slice (sliceK K) (pv 2) (po_some (pe_op (addK K) (pv 4) pe_int)) po_none)))) pss_nil)
      (pss_one (ps_if (pt_cmpR (eqK K hu) (pe_op op_mod (pv 3) pe_int) pe_int (nomark _)) (pss_one (ps_set (i := 2) nd rfl (by first | exact Or.inl rfl | exact Or.inr rfl) (pe_op (addK K) (pe_op (addK K) (pe_slice (sliceK K) (pv 2) po_none (po_some (pv 4))) (pe_lst (pa_cons (pe_op op_sub (pe_op op_mod (pe_op op_fdivW (pv 3) pe_int) pe_int) pe_int) pa_nil))) (pe_slice (sliceK K) (pv 2) (po_some (pv 4)) po_none)))) pss_nil)))))))
      (pss_one (ps_ret (pv 2))))), fun ds d h => ?_⟩
  obtain ⟨xs, s, rfl, hx, hs, rfl⟩ := h
  change DS _ _ [B.im _, B.im _, B.no, B.no, B.no] _
  apply ds_seq
  apply ds_asgX 2 (dxo (dx_list (da_cons (de_var rfl) da_nil)))
  apply ds_seq
  apply ds_for (I := fun i Γ' => ∃ b3 b4, Γ' = [.im (.lst (dI xs)), .im (.lst (dI s)), .ow (dI ((s.take i).foldl bentStep xs)), b3, b4])
  · exact di_list (de_var rfl)
  · exact ⟨_, _, rfl⟩
  · rintro i d Γ' hd ⟨b3', b4', rfl⟩
    obtain ⟨hi, rfl⟩ := map_get 0 hd
    have hlen : ((s.take i).foldl bentStep xs).length ≤ 300 := by
      have := bent_len (s.take i) xs
      rw [List.length_take] at this
      show (bent xs (s.take i)).length ≤ _
      omega
    have et : s.take (i + 1) = s.take i ++ [s.getD i 0] := by
      rw [List.take_succ, List.getElem?_eq_getElem hi, List.getD_eq_getElem?_getD, List.getElem?_eq_getElem hi]
      rfl
    rw [et, List.foldl_append]
    generalize (s.take i).foldl bentStep xs = ys at *
    generalize s.getD i 0 = c at *
    rw [show [c].foldl bentStep ys = bentStep ys c from rfl]
    refine ⟨_, dg_name _ trivial, ?_⟩
    change DS _ _ [.im (.lst (dI xs)), .im (.lst (dI s)), .ow (dI ys), .im (.int c), b4'] _
    have hm : 0 < maxI 1 (ys.length : Int) := by
      unfold maxI
      split <;> omega
    have ha0 := Int.emod_nonneg (c / 13) (show maxI 1 (ys.length : Int) ≠ 0 by omega)
    have ha1 := Int.emod_lt_of_pos (c / 13) hm
    have hA : c / 13 % maxI 1 (ys.length : Int) = ((bAt ys c : Nat) : Int) := (Int.toNat_of_nonneg ha0).symm
    have hlt : ys ≠ [] → bAt ys c < ys.length := fun h => by
      have := List.length_pos_iff.mpr h
      have e : maxI 1 (ys.length : Int) = (ys.length : Int) := by
        unfold maxI
        split <;> omega
      rw [e] at ha1 hA
      omega
    apply ds_seq
    apply ds_asg (d := .int ((bAt ys c : Nat) : Int))
    · refine deo_fz ?_ rfl
      rw [← hA]
      walk_at "fz"
      refine de_op (de_op (de_var rfl) de_int (r2_fdiv div13)) (de_cb (da_cons de_int (da_cons (de_cb (da_cons (de_var rfl) da_nil) rc_lenL) da_nil)) ?_) (r2_mod hm)
      rw [List.length_map]
      exact rc_max2
    change DS _ _ [.im (.lst (dI xs)), .im (.lst (dI s)), .ow (dI ys), .im (.int c), .im (.int ((bAt ys c : Nat) : Int))] _
    refine ds_cut [.im (.lst (dI xs)), .im (.lst (dI s)), .ow (dI (b0 ys c (bAt ys c))), .im (.int c), .im (.int ((bAt ys c : Nat) : Int))] ?_ ?_
    · refine ds_if (b := decide (c % 13 = 0) && !decide (ys = [])) (dto_fz ?_) (fun hb => ?_) (fun hb => ?_)
      · walk_at "fz"
        refine dt_and (dt_test (de_op (de_op (de_var rfl) de_int (r2_mod pos13)) de_int r2_eqI)) fun _ => dt_test (de_op (de_var rfl) (de_lst da_nil (by decide)) (r2_neL (b := [])))
      · have hb' : c % 13 = 0 ∧ ys ≠ [] := by simpa using hb
        have hl := hlt hb'.2
        refine ds_setIx 2 (bAt ys c) rfl (d := .int (ys.getD (bAt ys c) 0 + c / 169 % 3 - 1)) (deo_fz ?_ rfl) (m := ((bAt ys c : Nat) : Int)) (deo (de_var rfl)) (ix_nat (by rw [List.length_map]; exact hl)) ?_
        · walk_at "fz"
          exact de_op (de_op (de_op (de_var rfl) (de_var rfl) (r2_ixN hl)) (de_op (de_op (de_var rfl) de_int (r2_fdiv div169)) de_int (r2_mod pos3)) r2_add) de_int r2_sub
        · unfold b0
          rw [if_pos hb', ← dI_set]
          rfl
      · apply ds_next
        unfold b0
        rw [if_neg fun z => by simp [z] at hb]
    have l0 : (b0 ys c (bAt ys c)).length = ys.length := b0_len
    unfold bentStep
    generalize b0 ys c (bAt ys c) = y0 at *
    have hlt1 : y0 ≠ [] → bAt ys c < y0.length := fun h => by
      rw [l0]
      refine hlt fun z => h ?_
      rw [z] at l0
      exact List.length_eq_zero_iff.mp l0
    refine ds_cut [.im (.lst (dI xs)), .im (.lst (dI s)), .ow (dI (b1 y0 c (bAt ys c))), .im (.int c), .im (.int ((bAt ys c : Nat) : Int))] ?_ ?_
    · refine ds_if (b := decide (c % 13 = 1) && !decide (y0 = [])) (dto_fz ?_) (fun hb => ?_) (fun hb => ?_)
      · walk_at "fz"
        refine dt_and (dt_test (de_op (de_op (de_var rfl) de_int (r2_mod pos13)) de_int r2_eqI)) fun _ => dt_test (de_op (de_var rfl) (de_lst da_nil (by decide)) (r2_neL (b := [])))
      · have hb' : c % 13 = 1 ∧ y0 ≠ [] := by simpa using hb
        have hl := hlt1 hb'.2
        refine ds_swap (n := bAt ys c) (n2 := 0) 2 rfl (x := .int (y0.getD 0 0)) (y := .int (y0.getD (bAt ys c) 0)) (dao_fz ?_ rfl) (m := ((bAt ys c : Nat) : Int)) (deo (de_var rfl)) (ix_nat (by rw [List.length_map]; exact hl)) (m2 := 0) (deo de_int) (ix_nat (k := 0) (by rw [List.length_map]; omega)) ?_
        · walk_at "fz"
          exact da_cons (de_op (de_var rfl) de_int (r2_ixN (i := 0) (by omega))) (da_cons (de_op (de_var rfl) (de_var rfl) (r2_ixN hl)) da_nil)
        · unfold b1
          rw [if_pos hb', ← dI_set, ← dI_set]
          rfl
      · apply ds_next
        unfold b1
        rw [if_neg fun z => by simp [z] at hb]
    have l1 : (b1 y0 c (bAt ys c)).length = y0.length := b1_len
    generalize b1 y0 c (bAt ys c) = y1 at *
    refine ds_cut [.im (.lst (dI xs)), .im (.lst (dI s)), .ow (dI (b2 y1 c (bAt ys c))), .im (.int c), .im (.int ((bAt ys c : Nat) : Int))] ?_ ?_
    · refine ds_if (b := decide (c % 13 = 2)) (dto (dt_test (de_op (de_op (de_var rfl) de_int (r2_mod pos13)) de_int r2_eqI))) (fun hb => ?_) (fun hb => ?_)
      · refine ds_asgX 2 (dxo_fz (ds := dI (y1.take (bAt ys c)) ++ dI (y1.drop (bAt ys c + 1))) ?_ ?_) ?_
        · walk_at "fz"
          refine dx_cat ?_ ?_ ?_
          · rw [← dI_take, ← cut_takeN]
            exact de_slice (de_var rfl) do_none (do_some (de_var rfl))
          · rw [← dI_drop, ← cut_dropN]
            exact de_slice (de_var rfl) (do_some (de_op (de_var rfl) de_int r2_add)) do_none
          · rw [List.length_map, List.length_map, List.length_take, List.length_drop]
            omega
        · rw [List.all_append, dI_flat, dI_flat]
          rfl
        · unfold b2
          rw [if_pos (of_decide_eq_true hb)]
          unfold dI
          rw [List.map_append]
          rfl
      · apply ds_next
        unfold b2
        rw [if_neg (of_decide_eq_false hb)]
    have l2 : (b2 y1 c (bAt ys c)).length ≤ y1.length := b2_len
    generalize b2 y1 c (bAt ys c) = y2 at *
    refine ds_if (b := decide (c % 13 = 3)) (dto (dt_test (de_op (de_op (de_var rfl) de_int (r2_mod pos13)) de_int r2_eqI))) (fun hb => ?_) (fun hb => ?_)
    · refine ds_asgX 2 (dxo_fz (ds := (dI (y2.take (bAt ys c)) ++ [.int (c / 169 % 5 - 2)]) ++ dI (y2.drop (bAt ys c))) ?_ ?_) ?_
      · walk_at "fz"
        refine dx_cat (de_op ?_ (de_lst (da_cons (de_op (de_op (de_op (de_var rfl) de_int (r2_fdiv div169)) de_int (r2_mod pos5)) de_int r2_sub) da_nil) (Nat.le_of_ble_eq_true rfl)) (r2_cat ?_)) ?_ ?_
        · rw [← dI_take, ← cut_takeN]
          exact de_slice (de_var rfl) do_none (do_some (de_var rfl))
        · rw [List.length_map, List.length_take, List.length_singleton]
          omega
        · rw [← dI_drop, ← cut_dropN]
          exact de_slice (de_var rfl) (do_some (de_var rfl)) do_none
        · rw [List.length_append, List.length_map, List.length_map, List.length_take, List.length_drop, List.length_singleton]
          omega
      · rw [List.all_append, List.all_append, dI_flat, dI_flat]
        rfl
      · refine ⟨.im (.int c), .im (.int ((bAt ys c : Nat) : Int)), ?_⟩
        unfold b3
        rw [if_pos (of_decide_eq_true hb)]
        unfold dI
        rw [List.map_append, List.map_append]
        rfl
    · apply ds_next
      refine ⟨.im (.int c), .im (.int ((bAt ys c : Nat) : Int)), ?_⟩
      unfold b3
      rw [if_neg (of_decide_eq_false hb)]
  · rintro Γ' ⟨b3', b4', rfl⟩
    rw [List.length_map, List.take_length]
    exact ds_give 2 rfl (ds_ret (deo (de_var rfl)) rfl)
theorem c__law_bent {xs s : List Int} (h : xs.length ≤ 200) (h2 : s.length ≤ 63) : R__law_bent [.lst (dI xs), .lst (dI s)] (.lst (dI (bent xs s))) := ⟨_, _, rfl, h, h2, rfl⟩
end
end U

namespace U
open PySem PySem.Spec PyProof.Rows L2 DL
section
variable {P : Program} {w : World} {K : PySem.W.Frag} {mg : Str → Option Value} {base : Heap}
local macro_rules | `(tactic| walk_at "lk") => `(tactic| first | with_reducible exact look_hit | ((with_reducible refine look_miss (by decide +kernel) ?_); walk_at "lk") | with_reducible exact look_nil)
local macro_rules | `(tactic| walk_at "fz") => `(tactic| simp only [fz, fzB, chF, Ch.d, List.map, List.set])
local macro_rules | `(tactic| walk_at "ob") => `(tactic| first
  | ((with_reducible show look _ _ = _); walk_at "lk")
  | with_reducible apply de_callO | ((with_reducible show B.d _ = _); rfl) | ((with_reducible apply de_either1); (with_reducible apply de_meth); exact de_var rfl) | ((with_reducible apply de_either2); (with_reducible apply de_meth); exact de_var rfl)
  | with_reducible exact de_cls | with_reducible apply de_fld | with_reducible apply rc_isC | with_reducible apply de_meth
  | walk_at "cl")
local macro_rules | `(tactic| walk_at "r2") => `(tactic| (fail_if_success (with_reducible show R2D _ _ D.non _ _)); (fail_if_success (with_reducible show R2D _ _ _ D.non _)); first
  | exact r2_add | exact r2_sub | exact r2_lt | exact r2_le | exact r2_gt | exact r2_ge
  | with_reducible exact r2_p30 | with_reducible exact r2_p9
  | with_reducible apply r2_mod | with_reducible apply r2_fdiv | with_reducible apply r2_mul | with_reducible apply r2_pow | with_reducible apply r2_cat | with_reducible apply r2_rep1
  | exact r2_ixT rfl | exact r2_ixL rfl | with_reducible apply r2_ixN | with_reducible apply r2_ixI
  | exact r2_eqI | exact r2_neI | exact r2_eqB | exact r2_neB | exact r2_eqL | exact r2_neL | exact r2_isB | exact r2_notB)
local macro_rules | `(tactic| walk_at "rc") => `(tactic| (fail_if_success (with_reducible show RCD _ _ [D.non] _)); (fail_if_success (with_reducible show RCD _ _ [D.non, _] _)); (fail_if_success (with_reducible show RCD _ _ [_, D.non] _)); first
  | with_reducible exact rc_srt
  | exact rc_abs | exact rc_max2 | exact rc_min2 | exact rc_sum | exact rc_all | exact rc_any | exact rc_lenL | exact rc_lenT | exact rc_listL | exact rc_listT
  | with_reducible apply rc_int | with_reducible apply rc_bool | with_reducible apply rc_list | with_reducible apply rc_tuple)
local macro_rules | `(tactic| walk_at "d1") => `(tactic| first
  | with_reducible exact de_int | with_reducible exact de_bl | with_reducible exact de_non | exact de_var rfl
  | with_reducible exact da_nil | with_reducible apply da_cons
  | with_reducible apply de_op | with_reducible apply de_un | with_reducible apply de_cb | with_reducible apply de_call
  | with_reducible apply de_tup | with_reducible apply de_lst
  | with_reducible apply de_andV | with_reducible apply de_orV | with_reducible apply de_notV | ((with_reducible show _ = true → _); intro _) | ((with_reducible show _ = false → _); intro _)
  | with_reducible apply dt_and | with_reducible apply dt_or | with_reducible apply dt_not | with_reducible apply dt_test | with_reducible apply dt_B
  | with_reducible apply de_slice | with_reducible exact do_none | with_reducible apply do_some | with_reducible apply de_rev
  | with_reducible apply de_maxD | with_reducible apply de_chain3 | with_reducible apply de_chain
  | walk_at "r2" | walk_at "rc" | walk_at "ob"
  | ((with_reducible show R1D _ _ (D.int _) _); exact r1_neg)
  | with_reducible exact de_ty
  | with_reducible exact ne_int | with_reducible exact ne_lst | with_reducible exact ne_tup | with_reducible exact ne_bl
  | ((with_reducible show List.length _ = _); rfl) | ((with_reducible show List.length _ + 1 = _); rfl)
  | (with_reducible show List.length _ ≤ 1000); exact Nat.le_of_ble_eq_true rfl)
local macro_rules | `(tactic| walk_at "dg") => `(tactic| repeat' (first | exact dg_name _ trivial | exact dg_name _ (by decide) | with_reducible exact dg_nil | with_reducible apply dg_cons | with_reducible apply dg_tup | ((with_reducible show List.length _ = _); rfl)))
local macro_rules | `(tactic| walk_at "de") => `(tactic| repeat' walk_at "d1")
local macro_rules | `(tactic| walk_at "ret") => `(tactic| (apply ds_ret; apply deo; walk_at "de"))
local macro_rules | `(tactic| walk_at "asg") => `(tactic| (apply ds_seq; apply ds_asg; apply deo; walk_at "de"))
local macro_rules | `(tactic| walk_at "drop") => `(tactic| (apply ds_seq; apply ds_drop; apply deo; walk_at "de"))
local macro_rules | `(tactic| walk_at "par") => `(tactic| (apply ds_seq; apply ds_par; apply dao; walk_at "de"))
local macro_rules | `(tactic| walk_at "parG") => `(tactic| (apply ds_seq; apply ds_asgG; apply deo; walk_at "de"; walk_at "dg"))
local macro_rules | `(tactic| walk_at "lc") => `(tactic| first | with_reducible exact lookC_hit | with_reducible exact lookC_nil | ((with_reducible refine lookC_miss (by decide +kernel) ?_); walk_at "lc"))
local macro_rules | `(tactic| walk_at "pc") => `(tactic| first | with_reducible exact putC_hit | with_reducible exact putC_nil | ((with_reducible apply putC_miss); (decide +kernel); (walk_at "pc")))
local macro_rules | `(tactic| walk_at "cl") => `(tactic| first | with_reducible exact Tx.c_Band _ | with_reducible exact Tx.i_Band _ | with_reducible exact Tx.n_Band_lows _ | with_reducible exact Tx.n_Band_highs _ | with_reducible exact Tx.c_Barred _ | with_reducible exact Tx.i_Barred _ | with_reducible exact Tx.n_Barred_first _ | with_reducible exact Tx.n_Barred_second _ | with_reducible exact Tx.c_Evened _ | with_reducible exact Tx.i_Evened _ | with_reducible exact Tx.n_Evened_row _ | with_reducible exact Tx.n_Evened_first _ | with_reducible exact Tx.n_Evened_second _ | with_reducible exact Tx.c_Squared _ | with_reducible exact Tx.i_Squared _ | with_reducible exact Tx.n_Squared_row _ | with_reducible exact Tx.c_Summed _ | with_reducible exact Tx.i_Summed _ | with_reducible exact Tx.n_Summed_row _ | with_reducible exact Tx.n_Summed_pulls _ | with_reducible exact Tx.is_Band_Barred _ | with_reducible exact Tx.is_Band_Evened _ | with_reducible exact Tx.is_Band_Squared _ | with_reducible exact Tx.is_Band_Summed _ | with_reducible exact Tx.is_Barred_Band _ | with_reducible exact Tx.is_Barred_Evened _ | with_reducible exact Tx.is_Barred_Squared _ | with_reducible exact Tx.is_Barred_Summed _ | with_reducible exact Tx.is_Evened_Band _ | with_reducible exact Tx.is_Evened_Barred _ | with_reducible exact Tx.is_Evened_Squared _ | with_reducible exact Tx.is_Evened_Summed _ | with_reducible exact Tx.is_Squared_Band _ | with_reducible exact Tx.is_Squared_Barred _ | with_reducible exact Tx.is_Squared_Evened _ | with_reducible exact Tx.is_Squared_Summed _ | with_reducible exact Tx.is_Summed_Band _ | with_reducible exact Tx.is_Summed_Barred _ | with_reducible exact Tx.is_Summed_Evened _ | with_reducible exact Tx.is_Summed_Squared _| with_reducible exact (Tx.i_Band _).me | with_reducible exact (Tx.i_Barred _).me | with_reducible exact (Tx.i_Evened _).me | with_reducible exact (Tx.i_Squared _).me | with_reducible exact (Tx.i_Summed _).me)
local macro_rules | `(tactic| walk_at "d1") => `(tactic| first | exact c_common | with_reducible apply c_is_number)
local macro_rules | `(tactic| walk_at "d1") => `(tactic| with_reducible apply c_lowest)
local macro_rules | `(tactic| walk_at "d1") => `(tactic| with_reducible apply c_are_numbers)
local macro_rules | `(tactic| walk_at "d1") => `(tactic| with_reducible apply c_check_numbers)
local macro_rules | `(tactic| walk_at "d1") => `(tactic| with_reducible apply c_check_row)
local macro_rules | `(tactic| walk_at "d1") => `(tactic| with_reducible apply c_check_weights)
local macro_rules | `(tactic| walk_at "d1") => `(tactic| with_reducible apply c_greatest_of)
local macro_rules | `(tactic| walk_at "d1") => `(tactic| with_reducible apply c_sum_of)
local macro_rules | `(tactic| walk_at "d1") => `(tactic| first | with_reducible apply c_greatest | with_reducible apply c_summed_up | with_reducible exact c_is_fraction)
local macro_rules | `(tactic| walk_at "d1") => `(tactic| first | with_reducible exact c__law_whole2 | with_reducible apply c__law_whole)
local macro_rules | `(tactic| walk_at "d1") => `(tactic| with_reducible first | exact div21 | exact div3 | exact div2 | exact div5 | exact div7 | exact div30 | exact div230 | exact pos21 | exact pos2 | exact pos3 | exact pos5 | exact pos7 | exact pos9 | exact pos12 | exact posE30 | exact posE9 | exact mul2 | exact mul2l | exact mul3l)
local macro_rules | `(tactic| walk_at "d1") => `(tactic| first | with_reducible apply c__law_numbers | with_reducible apply c__law_weights)
local macro_rules | `(tactic| walk_at "d1") => `(tactic| with_reducible apply c_rises)
local macro_rules | `(tactic| walk_at "d1") => `(tactic| with_reducible apply c_highest_so_far)
local macro_rules | `(tactic| walk_at "d1") => `(tactic| with_reducible apply c_worst_places)
local macro_rules | `(tactic| walk_at "d1") => `(tactic| with_reducible apply c_Evened_shows)
local macro_rules | `(tactic| walk_at "d1") => `(tactic| with_reducible apply c__law_rises)
local macro_rules | `(tactic| walk_at "d1") => `(tactic| first | with_reducible apply c__law_even | with_reducible apply c__law_whole | with_reducible exact c__law_whole2)
local macro_rules | `(tactic| walk_at "d1") => `(tactic| first | with_reducible apply c_Band_shows | with_reducible exact c_Barred_shows)
local macro_rules | `(tactic| walk_at "d1") => `(tactic| with_reducible apply c_from_nought)
local macro_rules | `(tactic| walk_at "d1") => `(tactic| with_reducible exact c__law_says)
local macro_rules | `(tactic| walk_at "d1") => `(tactic| with_reducible first | exact div13 | exact div169 | exact pos13)
/-! ## the evened ones, made by hand -/
local macro_rules | `(tactic| walk_at "fzE") => `(tactic| (simp only [evC, suC, sqC, barC, bandC, fz, fzB, chF, Ch.d, List.map, List.set]))
def pairD (p : Int × Int) : D := .tup [.int p.1, .int p.2]
def rowD (xs : List Int) : D := .lst (dI xs)
def evRows (ns s : List Int) : List (List Int) := [evRow ns, bent (evRow ns) s, hsf ns, lof ns, (evRow ns).map fun x => x + 1]
def evPairs (ns : List Int) : List (Int × Int) := [((first ns : Int), (second ns : Int)), (0, (ns.length : Int) - 1), ((second ns : Int), (first ns : Int)), (-1, 0)]
theorem evRow_l (ns : List Int) : (evRow ns).length = ns.length := by
  unfold evRow
  rw [List.length_map, hsf_len]
theorem evRows_len {ns s : List Int} (h : ns.length ≤ 63) (h2 : s.length ≤ 63) : ∀ xs ∈ evRows ns s, xs.length ≤ 200 := fun xs hx => by
  unfold evRows at hx
  have hl := evRow_l ns
  have hb := bent_len s (evRow ns)
  have h1 := hsf_len ns
  have h3 := lof_len ns
  simp only [List.mem_cons, List.not_mem_nil, or_false] at hx
  rcases hx with rfl | rfl | rfl | rfl | rfl
  · omega
  · omega
  · omega
  · omega
  · rw [List.length_map]
    omega
def R__law_evens_right (ds : List D) (d : D) : Prop := ∃ ns s : List Int, ds = [.lst (dI ns), .lst (dI s)] ∧ ns.length ≤ 63 ∧ s.length ≤ 63 ∧ d = .bl true
theorem ok__law_evens_right (T : Tx K mg base) : FnOk P w K mg base CX0 5 T.a__law_evens_right T.d__law_evens_right ["_law_numbers_here", "_law_script"] (spR K 2 R__law_evens_right) := by
  refine pure_ok T.F__law_evens_right sc__law_evens_right rfl (fun cdv A outer s H E hr => ?_)
  have nd := sc__law_evens_right.nd
  have hu := hr.units
  refine ⟨_, (pss_cons (ps_set (i := 2) nd rfl (by first | exact Or.inl rfl | exact Or.inr rfl) (pe_call (ok_evened T) (hr.mono (by decide)) (by rfl) T.g_evened T.F_evened.kp T.b_evened .nil pass0 (pa_cons (pv 0) pa_nil)))
      (pss_cons (ps_set (i := 3) nd rfl (by first | exact Or.inl rfl | exact Or.inr rfl) (pe_lst (pa_cons (fldK K (pv 2) rfl) (pa_cons (pe_call (ok__law_bent T) (hr.mono (by decide)) (by rfl) T.g__law_bent T.F__law_bent.kp T.b__law_bent .nil pass0 (pa_cons (fldK K (pv 2) rfl) (pa_cons (pv 1) pa_nil))) (pa_cons (pe_call (ok_upper T) (hr.mono (by decide)) (by rfl) T.g_upper T.F_upper.kp T.b_upper .nil pass0 (pa_cons (pv 0) pa_nil)) (pa_cons (pe_call (ok_lower T) (hr.mono (by decide)) (by rfl) T.g_lower T.F_lower.kp T.b_lower .nil pass0 (pa_cons (pv 0) pa_nil)) (pa_cons (pe_lc (own := [("_law_number", 10)]) (g := (gName 10)) (tt := tYes) rfl nd (pi_listK K (fldK K (pv 2) rfl)) (blkOk_by (own := [("_law_number", 10)]) (N := N__law_evens_right) (sc := defScope s__law_evens_right) (by decide +kernel)) (fun _ _ _ _ _ => (pg_name (i := 10) nd rfl (by first | exact Or.inl rfl | exact Or.inr rfl))) (fun _ _ _ _ _ => pts_nil) (fun _ _ _ _ _ => (pe_op (addK K) (pv 10) pe_int))) pa_nil)))))))
      (pss_cons (ps_for PassesOwn.never rfl (pi_listK K (pv 3)) (pg_name (i := 4) nd rfl (by first | exact Or.inl rfl | exact Or.inr rfl)) (pss_one (ps_for PassesOwn.never rfl (pi_listK K (pe_lst (pa_cons (pe_tup (pa_cons (fldK K (pv 2) rfl) (pa_cons (fldK K (pv 2) rfl) pa_nil))) (pa_cons (pe_tup (pa_cons pe_int (pa_cons (pe_op op_sub (pe_callB (lenK K) (by rfl) T.m_len bt_len (pa_cons (pv 0) pa_nil)) pe_int) pa_nil))) (pa_cons (pe_tup (pa_cons (fldK K (pv 2) rfl) (pa_cons (fldK K (pv 2) rfl) pa_nil))) (pa_cons (pe_tup (pa_cons (pe_un un_neg pe_int) (pa_cons pe_int pa_nil))) pa_nil)))))) (pg_tupK (n := 2) K rfl (pgs_cons (pg_name (i := 5) nd rfl (by first | exact Or.inl rfl | exact Or.inr rfl)) (pgs_cons (pg_name (i := 6) nd rfl (by first | exact Or.inl rfl | exact Or.inr rfl)) pgs_nil))) (pss_cons (ps_set (i := 7) nd rfl (by first | exact Or.inl rfl | exact Or.inr rfl) (pe_callTy (listK K) (by rfl) T.m_list bt_list (pa_cons (pv 4) pa_nil)))
      (pss_cons (ps_set (i := 8) nd rfl (by first | exact Or.inl rfl | exact Or.inr rfl) (pe_make T.k_Evened (ok_Evened___init__ T) (hr.mono (by decide)) (by rfl) T.g_Evened T.b_Evened___init__ .nil pass0 (pa_cons (pv 7) (pa_cons (pv 5) (pa_cons (pv 6) pa_nil)))))
      (pss_cons (ps_expr (pe_bm PySem.F.plainAttrs_list PySem.F.slot_list_append PySem.F.type_list_append mt_append (pv 7) (pa_cons pe_int pa_nil)))
      (pss_cons (ps_set (i := 9) nd rfl (by first | exact Or.inl rfl | exact Or.inr rfl) (pe_call (ok__law_even T) (hr.mono (by decide)) (by rfl) T.g__law_even T.F__law_even.kp T.b__law_even .nil pass0 (pa_cons (pv 0) (pa_cons (pv 4) (pa_cons (pv 5) (pa_cons (pv 6) pa_nil))))))
      (pss_one (ps_if (PW.pt (pw_or (pt_cmpR (neK K hu) (fldK K (pv 8) rfl) (pv 4) (nomark _)) (pw_or1 (pt_not (pt_val (pe_call (ok__law_says T) (hr.mono (by decide)) (by rfl) T.g__law_says T.F__law_says.kp T.b__law_says .nil pass0 (pa_cons (pe_meth (pv 8) T.c_Evened T.m_Evened_shows (ok_Evened_shows T) (hr.mono (by decide)) T.b_Evened_shows .nil pass0 (pa_cons (pv 0) pa_nil)) (pa_cons (pv 9) pa_nil)))))))) (pss_one (ps_ret pe_bl)) pss_nil)))))))))
      (pss_one (ps_ret pe_bl))))), fun ds d h => ?_⟩
  obtain ⟨ns, s, rfl, hn, hs, rfl⟩ := h
  change DS _ _ [B.im _, B.im _, B.no, B.no, B.no, B.no, B.no, B.no, B.no, B.no, B.no] _
  have hl := evRow_l ns
  have n1000 : ns.length ≤ 1000 := by omega
  apply ds_seq
  apply ds_asg (d := .ins T.C_Evened (evF (dI (evRow ns)) (.int (first ns)) (.int (second ns))))
  · exact deo (de_callO (da_cons (de_var rfl) da_nil) (c_evened n1000) rfl rfl)
  change DS _ _ [.im (.lst (dI ns)), .im (.lst (dI s)), .im (.ins T.C_Evened [("row", .lst (dI (evRow ns))), ("first", .int (first ns)), ("second", .int (second ns))]), .no, .no, .no, .no, .no, .no, .no, .no] _
  apply ds_seq
  apply ds_asg (d := .lst ((evRows ns s).map rowD))
  · apply deo
    show DE _ _ _ (.lst [.lst (dI (evRow ns)), .lst (dI (bent (evRow ns) s)), .lst (dI (hsf ns)), .lst (dI (lof ns)), .lst (dI ((evRow ns).map fun x => x + 1))])
    refine de_lst (da_cons ?_ (da_cons ?_ (da_cons ?_ (da_cons ?_ (da_cons ?_ da_nil))))) (Nat.le_of_ble_eq_true rfl)
    · exact de_fld (de_var rfl) T.c_Evened T.n_Evened_row look_hit
    · exact de_call (da_cons (de_fld (de_var rfl) T.c_Evened T.n_Evened_row look_hit) (da_cons (de_var rfl) da_nil)) (c__law_bent (by omega) hs) rfl
    · exact de_callO (da_cons (de_var rfl) da_nil) (c_upper n1000) rfl rfl
    · exact de_callO (da_cons (de_var rfl) da_nil) (c_lower n1000) rfl rfl
    · apply de_lcI (fun x : Int => x + 1) (xs := evRow ns) (enc := D.int)
      · exact di_list (de_fld (de_var rfl) T.c_Evened T.n_Evened_row look_hit)
      · omega
      · intro x hx
        refine ⟨_, dg_name _ (by decide), ?_⟩
        walk_at "de"
  apply ds_seq
  apply ds_for (I := fun i Γ' => ∃ b4 b5 b6 b7 b8 b9 b10, Γ' = [.im (.lst (dI ns)), .im (.lst (dI s)), .im (.ins T.C_Evened [("row", .lst (dI (evRow ns))), ("first", .int (first ns)), ("second", .int (second ns))]), .im (.lst ((evRows ns s).map rowD)), b4, b5, b6, b7, b8, b9, b10])
  · exact di_list (de_var rfl)
  · exact ⟨_, _, _, _, _, _, _, rfl⟩
  · rintro i d Γ' hd ⟨b4, b5, b6, b7, b8, b9, b10, rfl⟩
    obtain ⟨hi, rfl⟩ := map_get [] hd
    have hr := evRows_len hn hs _ (getD_mem (z := []) hi)
    generalize (evRows ns s).getD i [] = r at *
    refine ⟨_, dg_name _ trivial, ?_⟩
    apply ds_for (I := fun j Γ' => ∃ b5 b6 b7 b8 b9 b10, Γ' = [.im (.lst (dI ns)), .im (.lst (dI s)), .im (.ins T.C_Evened [("row", .lst (dI (evRow ns))), ("first", .int (first ns)), ("second", .int (second ns))]), .im (.lst ((evRows ns s).map rowD)), .im (.lst (dI r)), b5, b6, b7, b8, b9, b10])
    · apply di_list (ds := (evPairs ns).map pairD)
      show DE _ _ _ (.lst [.tup [.int (first ns), .int (second ns)], .tup [.int 0, .int ((ns.length : Int) - 1)], .tup [.int (second ns), .int (first ns)], .tup [.int (-1), .int 0]])
      have f1 : ∀ {Γ : List B}, Γ[2]? = some (.im (.ins T.C_Evened [("row", .lst (dI (evRow ns))), ("first", .int (first ns)), ("second", .int (second ns))])) → DE K (tFld K (tVar 2) "first") Γ (.int (first ns)) := fun h => de_fld (de_var h) T.c_Evened T.n_Evened_first (by walk_at "lk")
      have f2 : ∀ {Γ : List B}, Γ[2]? = some (.im (.ins T.C_Evened [("row", .lst (dI (evRow ns))), ("first", .int (first ns)), ("second", .int (second ns))])) → DE K (tFld K (tVar 2) "second") Γ (.int (second ns)) := fun h => de_fld (de_var h) T.c_Evened T.n_Evened_second (by walk_at "lk")
      refine de_lst (da_cons (de_tup (da_cons (f1 rfl) (da_cons (f2 rfl) da_nil)) (Nat.le_of_ble_eq_true rfl)) (da_cons (de_tup (da_cons de_int (da_cons ?_ da_nil)) (Nat.le_of_ble_eq_true rfl)) (da_cons (de_tup (da_cons (f2 rfl) (da_cons (f1 rfl) da_nil)) (Nat.le_of_ble_eq_true rfl)) (da_cons (de_tup (da_cons (de_un de_int r1_neg) (da_cons de_int da_nil)) (Nat.le_of_ble_eq_true rfl)) da_nil)))) (Nat.le_of_ble_eq_true rfl)
      rw [show ((ns.length : Int) - 1) = (((dI ns).length : Nat) : Int) - 1 by rw [List.length_map]]
      exact de_op (de_cb (da_cons (de_var rfl) da_nil) rc_lenL) de_int r2_sub
    · exact ⟨_, _, _, _, _, _, rfl⟩
    · rintro j d Γ' hd ⟨b5, b6, b7, b8, b9, b10, rfl⟩
      obtain ⟨hj, rfl⟩ := map_get (0, 0) hd
      generalize (evPairs ns).getD j (0, 0) = p at *
      obtain ⟨a, b⟩ := p
      refine ⟨_, show DG _ _ _ (.tup [.int a, .int b]) _ _ from dg_tup (dg_cons (dg_name _ trivial) (dg_cons (dg_name _ trivial) dg_nil)) rfl, ?_⟩
      apply ds_seq
      refine ds_asgX 7 (dxo (dx_list (da_cons (de_var rfl) da_nil))) ?_
      apply ds_seq
      refine ds_asgX 8 (dxo_op1 (fun xs => evC xs (.int a) (.int b)) 7 rfl (fun us hl => dx_make (da_cons (de_var rfl) (da_cons (de_var rfl) (da_cons (de_var rfl) da_nil))) c_Evened___init__ rfl) (fun G us r => .cons (.ow r) (.cons (.st rfl) (.cons (.st rfl) .nil)))) ?_
      apply ds_seq
      refine ds_app 7 rfl (deo de_int) (by rw [List.length_map]; omega) ?_
      apply ds_seq
      refine ds_asg 9 (d := .bl (evenOk ns r a b)) (deo (de_call (da_cons (de_var rfl) (da_cons (de_var rfl) (da_cons (de_var rfl) (da_cons (de_var rfl) da_nil)))) (c__law_even (by omega) n1000) rfl)) ?_
      refine ds_ifF (dto_fz ?_) (ds_next ⟨_, _, _, _, _, _, rfl⟩)
      walk_at "fzE"
      refine' dt_is _ _
      rotate_left
      · walk_at "de"
        all_goals first | omega | skip
      · simp
    · rintro Γ' ⟨b5, b6, b7, b8, b9, b10, rfl⟩
      exact ⟨_, _, _, _, _, _, _, rfl⟩
  · rintro Γ' ⟨b4, b5, b6, b7, b8, b9, b10, rfl⟩
    exact ds_ret (deo de_bl) rfl
theorem c__law_evens_right {ns s : List Int} (h : ns.length ≤ 63) (h2 : s.length ≤ 63) : R__law_evens_right [.lst (dI ns), .lst (dI s)] (.bl true) := ⟨_, _, rfl, h, h2, rfl⟩
end
end U

namespace U
open PySem PySem.Spec PyProof.Rows L2 DL
section
variable {P : Program} {w : World} {K : PySem.W.Frag} {mg : Str → Option Value} {base : Heap}
local macro_rules | `(tactic| walk_at "lk") => `(tactic| first | with_reducible exact look_hit | ((with_reducible refine look_miss (by decide +kernel) ?_); walk_at "lk") | with_reducible exact look_nil)
local macro_rules | `(tactic| walk_at "fz") => `(tactic| simp only [fz, fzB, chF, Ch.d, List.map, List.set])
local macro_rules | `(tactic| walk_at "ob") => `(tactic| first
  | ((with_reducible show look _ _ = _); walk_at "lk")
  | with_reducible apply de_callO | ((with_reducible show B.d _ = _); rfl) | ((with_reducible apply de_either1); (with_reducible apply de_meth); exact de_var rfl) | ((with_reducible apply de_either2); (with_reducible apply de_meth); exact de_var rfl)
  | with_reducible exact de_cls | with_reducible apply de_fld | with_reducible apply rc_isC | with_reducible apply de_meth
  | walk_at "cl")
local macro_rules | `(tactic| walk_at "r2") => `(tactic| (fail_if_success (with_reducible show R2D _ _ D.non _ _)); (fail_if_success (with_reducible show R2D _ _ _ D.non _)); first
  | exact r2_add | exact r2_sub | exact r2_lt | exact r2_le | exact r2_gt | exact r2_ge
  | with_reducible exact r2_p30 | with_reducible exact r2_p9
  | with_reducible apply r2_mod | with_reducible apply r2_fdiv | with_reducible apply r2_mul | with_reducible apply r2_pow | with_reducible apply r2_cat | with_reducible apply r2_rep1
  | exact r2_ixT rfl | exact r2_ixL rfl | with_reducible apply r2_ixN | with_reducible apply r2_ixI
  | exact r2_eqI | exact r2_neI | exact r2_eqB | exact r2_neB | exact r2_eqL | exact r2_neL | exact r2_isB | exact r2_notB)
local macro_rules | `(tactic| walk_at "rc") => `(tactic| (fail_if_success (with_reducible show RCD _ _ [D.non] _)); (fail_if_success (with_reducible show RCD _ _ [D.non, _] _)); (fail_if_success (with_reducible show RCD _ _ [_, D.non] _)); first
  | with_reducible exact rc_srt
  | exact rc_abs | exact rc_max2 | exact rc_min2 | exact rc_sum | exact rc_all | exact rc_any | exact rc_lenL | exact rc_lenT | exact rc_listL | exact rc_listT
  | with_reducible apply rc_int | with_reducible apply rc_bool | with_reducible apply rc_list | with_reducible apply rc_tuple)
local macro_rules | `(tactic| walk_at "d1") => `(tactic| first
  | with_reducible exact de_int | with_reducible exact de_bl | with_reducible exact de_non | exact de_var rfl
  | with_reducible exact da_nil | with_reducible apply da_cons
  | with_reducible apply de_op | with_reducible apply de_un | with_reducible apply de_cb | with_reducible apply de_call
  | with_reducible apply de_tup | with_reducible apply de_lst
  | with_reducible apply de_andV | with_reducible apply de_orV | with_reducible apply de_notV | ((with_reducible show _ = true → _); intro _) | ((with_reducible show _ = false → _); intro _)
  | with_reducible apply dt_and | with_reducible apply dt_or | with_reducible apply dt_not | with_reducible apply dt_test | with_reducible apply dt_B
  | with_reducible apply de_slice | with_reducible exact do_none | with_reducible apply do_some | with_reducible apply de_rev
  | with_reducible apply de_maxD | with_reducible apply de_chain3 | with_reducible apply de_chain
  | walk_at "r2" | walk_at "rc" | walk_at "ob"
  | ((with_reducible show R1D _ _ (D.int _) _); exact r1_neg)
  | with_reducible exact de_ty
  | with_reducible exact ne_int | with_reducible exact ne_lst | with_reducible exact ne_tup | with_reducible exact ne_bl
  | ((with_reducible show List.length _ = _); rfl) | ((with_reducible show List.length _ + 1 = _); rfl)
  | (with_reducible show List.length _ ≤ 1000); exact Nat.le_of_ble_eq_true rfl)
local macro_rules | `(tactic| walk_at "dg") => `(tactic| repeat' (first | exact dg_name _ trivial | exact dg_name _ (by decide) | with_reducible exact dg_nil | with_reducible apply dg_cons | with_reducible apply dg_tup | ((with_reducible show List.length _ = _); rfl)))
local macro_rules | `(tactic| walk_at "de") => `(tactic| repeat' walk_at "d1")
local macro_rules | `(tactic| walk_at "ret") => `(tactic| (apply ds_ret; apply deo; walk_at "de"))
local macro_rules | `(tactic| walk_at "asg") => `(tactic| (apply ds_seq; apply ds_asg; apply deo; walk_at "de"))
local macro_rules | `(tactic| walk_at "drop") => `(tactic| (apply ds_seq; apply ds_drop; apply deo; walk_at "de"))
local macro_rules | `(tactic| walk_at "par") => `(tactic| (apply ds_seq; apply ds_par; apply dao; walk_at "de"))
local macro_rules | `(tactic| walk_at "parG") => `(tactic| (apply ds_seq; apply ds_asgG; apply deo; walk_at "de"; walk_at "dg"))
local macro_rules | `(tactic| walk_at "lc") => `(tactic| first | with_reducible exact lookC_hit | with_reducible exact lookC_nil | ((with_reducible refine lookC_miss (by decide +kernel) ?_); walk_at "lc"))
local macro_rules | `(tactic| walk_at "pc") => `(tactic| first | with_reducible exact putC_hit | with_reducible exact putC_nil | ((with_reducible apply putC_miss); (decide +kernel); (walk_at "pc")))
local macro_rules | `(tactic| walk_at "cl") => `(tactic| first | with_reducible exact Tx.c_Band _ | with_reducible exact Tx.i_Band _ | with_reducible exact Tx.n_Band_lows _ | with_reducible exact Tx.n_Band_highs _ | with_reducible exact Tx.c_Barred _ | with_reducible exact Tx.i_Barred _ | with_reducible exact Tx.n_Barred_first _ | with_reducible exact Tx.n_Barred_second _ | with_reducible exact Tx.c_Evened _ | with_reducible exact Tx.i_Evened _ | with_reducible exact Tx.n_Evened_row _ | with_reducible exact Tx.n_Evened_first _ | with_reducible exact Tx.n_Evened_second _ | with_reducible exact Tx.c_Squared _ | with_reducible exact Tx.i_Squared _ | with_reducible exact Tx.n_Squared_row _ | with_reducible exact Tx.c_Summed _ | with_reducible exact Tx.i_Summed _ | with_reducible exact Tx.n_Summed_row _ | with_reducible exact Tx.n_Summed_pulls _ | with_reducible exact Tx.is_Band_Barred _ | with_reducible exact Tx.is_Band_Evened _ | with_reducible exact Tx.is_Band_Squared _ | with_reducible exact Tx.is_Band_Summed _ | with_reducible exact Tx.is_Barred_Band _ | with_reducible exact Tx.is_Barred_Evened _ | with_reducible exact Tx.is_Barred_Squared _ | with_reducible exact Tx.is_Barred_Summed _ | with_reducible exact Tx.is_Evened_Band _ | with_reducible exact Tx.is_Evened_Barred _ | with_reducible exact Tx.is_Evened_Squared _ | with_reducible exact Tx.is_Evened_Summed _ | with_reducible exact Tx.is_Squared_Band _ | with_reducible exact Tx.is_Squared_Barred _ | with_reducible exact Tx.is_Squared_Evened _ | with_reducible exact Tx.is_Squared_Summed _ | with_reducible exact Tx.is_Summed_Band _ | with_reducible exact Tx.is_Summed_Barred _ | with_reducible exact Tx.is_Summed_Evened _ | with_reducible exact Tx.is_Summed_Squared _| with_reducible exact (Tx.i_Band _).me | with_reducible exact (Tx.i_Barred _).me | with_reducible exact (Tx.i_Evened _).me | with_reducible exact (Tx.i_Squared _).me | with_reducible exact (Tx.i_Summed _).me)
local macro_rules | `(tactic| walk_at "d1") => `(tactic| first | exact c_common | with_reducible apply c_is_number)
local macro_rules | `(tactic| walk_at "d1") => `(tactic| with_reducible apply c_lowest)
local macro_rules | `(tactic| walk_at "d1") => `(tactic| with_reducible apply c_are_numbers)
local macro_rules | `(tactic| walk_at "d1") => `(tactic| with_reducible apply c_check_numbers)
local macro_rules | `(tactic| walk_at "d1") => `(tactic| with_reducible apply c_check_row)
local macro_rules | `(tactic| walk_at "d1") => `(tactic| with_reducible apply c_check_weights)
local macro_rules | `(tactic| walk_at "d1") => `(tactic| with_reducible apply c_greatest_of)
local macro_rules | `(tactic| walk_at "d1") => `(tactic| with_reducible apply c_sum_of)
local macro_rules | `(tactic| walk_at "d1") => `(tactic| first | with_reducible apply c_greatest | with_reducible apply c_summed_up | with_reducible exact c_is_fraction)
local macro_rules | `(tactic| walk_at "d1") => `(tactic| first | with_reducible exact c__law_whole2 | with_reducible apply c__law_whole)
local macro_rules | `(tactic| walk_at "d1") => `(tactic| with_reducible first | exact div21 | exact div3 | exact div2 | exact div5 | exact div7 | exact div30 | exact div230 | exact pos21 | exact pos2 | exact pos3 | exact pos5 | exact pos7 | exact pos9 | exact pos12 | exact posE30 | exact posE9 | exact mul2 | exact mul2l | exact mul3l)
local macro_rules | `(tactic| walk_at "d1") => `(tactic| first | with_reducible apply c__law_numbers | with_reducible apply c__law_weights)
local macro_rules | `(tactic| walk_at "d1") => `(tactic| with_reducible apply c_rises)
local macro_rules | `(tactic| walk_at "d1") => `(tactic| with_reducible apply c_highest_so_far)
local macro_rules | `(tactic| walk_at "d1") => `(tactic| with_reducible apply c_worst_places)
local macro_rules | `(tactic| walk_at "d1") => `(tactic| with_reducible apply c_Evened_shows)
local macro_rules | `(tactic| walk_at "d1") => `(tactic| with_reducible apply c__law_rises)
local macro_rules | `(tactic| walk_at "d1") => `(tactic| first | with_reducible apply c__law_even | with_reducible apply c__law_whole | with_reducible exact c__law_whole2)
local macro_rules | `(tactic| walk_at "d1") => `(tactic| first | with_reducible apply c_Band_shows | with_reducible exact c_Barred_shows)
local macro_rules | `(tactic| walk_at "d1") => `(tactic| with_reducible apply c_from_nought)
local macro_rules | `(tactic| walk_at "d1") => `(tactic| with_reducible exact c__law_says)
local macro_rules | `(tactic| walk_at "d1") => `(tactic| with_reducible first | exact div13 | exact div169 | exact pos13)
local macro_rules | `(tactic| walk_at "fzE") => `(tactic| (simp only [evC, suC, sqC, barC, bandC, fz, fzB, chF, Ch.d, List.map, List.set]))
/-! ## the summed ones, made by hand -/
def suMany (ns ws s : List Int) : List (List Int) := [pullS ns ws, bent (pullS ns ws) s, s.map fun c => c / 5 % 7 - 3, (pullS ns ws).map fun x => -x, List.replicate ns.length 0]
def suRows (ns ws s : List Int) : List (List Int) := [rowS ns ws, bent (rowS ns ws) s, lof ns, (rowS ns ws).reverse]
structure PI7 (ns ws : List Int) : Prop where
  l : ns.length ≤ 63
  e : ws.length = ns.length
  w : Wts ws
  n : ∀ n ∈ ns, Fit 1048580 n
theorem suRows_len {ns ws s : List Int} (h : ns.length ≤ 63) (h2 : s.length ≤ 63) : ∀ xs ∈ suRows ns ws s, xs.length ≤ 200 := fun xs hx => by
  unfold suRows at hx
  have hl := rowS_len (ns := ns) (ws := ws)
  have hb := bent_len s (rowS ns ws)
  have h3 := lof_len ns
  simp only [List.mem_cons, List.not_mem_nil, or_false] at hx
  rcases hx with rfl | rfl | rfl | rfl
  · omega
  · omega
  · omega
  · rw [List.length_reverse]
    omega
theorem pullS_mx {ns ws : List Int} (h : PI7 ns ws) : Mx (2 ^ 40) (pullS ns ws) := ⟨fun u hu => by
  obtain ⟨i, hi, rfl⟩ := List.mem_iff_getElem.mp hu
  have hl := pullS_len (ns := ns) (ws := ws)
  have := (sum_good h.e h.w).pl i (by omega)
  have hw := h.w _ (getD_mem (z := 0) (show i < ws.length by have := h.e; omega))
  rw [List.getD_eq_getElem?_getD (l := pullS ns ws), List.getElem?_eq_getElem hi] at this
  simp only [Option.getD_some] at this
  omega⟩
theorem suMany_ok {ns ws s : List Int} (h : PI7 ns ws) (h2 : s.length ≤ 63) : ∀ xs ∈ suMany ns ws s, xs.length ≤ 200 ∧ ∀ u ∈ xs, Fit 200 u := fun xs hx => by
  have hl := pullS_len (ns := ns) (ws := ws)
  have hb := bent_len s (pullS ns ws)
  have h63 := h.l
  have m := pullS_mx h
  have fit : ∀ {k : Nat} {ys : List Int}, Mx (2 ^ 40 + k) ys → k ≤ 100 → ∀ u ∈ ys, Fit 200 u := fun {k ys} hm hk u hu => by
    have := hm.h u hu
    exact Fit.mono (m := 41) ⟨by omega⟩ (by decide)
  unfold suMany at hx
  simp only [List.mem_cons, List.not_mem_nil, or_false] at hx
  rcases hx with rfl | rfl | rfl | rfl | rfl
  · exact ⟨by omega, fit (k := 0) m (by omega)⟩
  · exact ⟨by omega, fit (k := s.length) (bent_mx (by decide) m) (by omega)⟩
  · refine ⟨by rw [List.length_map]; omega, fun u hu => ?_⟩
    obtain ⟨c, _, rfl⟩ := List.mem_map.mp hu
    have z1 := Int.emod_nonneg (c / 5) (show (7 : Int) ≠ 0 by decide)
    have z2 := Int.emod_lt_of_pos (c / 5) (show (0 : Int) < 7 by decide)
    exact Fit.mono (m := 10) ⟨by omega⟩ (by decide)
  · refine ⟨by rw [List.length_map]; omega, fun u hu => ?_⟩
    obtain ⟨c, hc, rfl⟩ := List.mem_map.mp hu
    have := m.h c hc
    exact Fit.mono (m := 41) ⟨by omega⟩ (by decide)
  · refine ⟨by rw [List.length_replicate]; omega, fun u hu => ?_⟩
    rw [(List.mem_replicate.mp hu).2]
    exact ⟨by decide⟩
local macro_rules | `(tactic| walk_at "d1") => `(tactic| first | with_reducible apply c_Summed_shows | with_reducible apply c__law_summed)
def R__law_sums_right (ds : List D) (d : D) : Prop := ∃ ns ws s : List Int, ds = [.lst (dI ns), .lst (dI ws), .lst (dI s)] ∧ PI7 ns ws ∧ s.length ≤ 63 ∧ d = .bl true
theorem ok__law_sums_right (T : Tx K mg base) : FnOk P w K mg base CX0 5 T.a__law_sums_right T.d__law_sums_right ["_law_numbers_here", "_law_weights_here", "_law_script"] (spR K 3 R__law_sums_right) := by
  refine pure_ok T.F__law_sums_right sc__law_sums_right rfl (fun cdv A outer s H E hr => ?_)
  have nd := sc__law_sums_right.nd
  have hu := hr.units
  refine ⟨_, (pss_cons (ps_set (i := 3) nd rfl (by first | exact Or.inl rfl | exact Or.inr rfl) (pe_call (ok_summed T) (hr.mono (by decide)) (by rfl) T.g_summed T.F_summed.kp T.b_summed .nil pass0 (pa_cons (pv 0) (pa_cons (pv 1) pa_nil))))
      (pss_cons (ps_set (i := 4) nd rfl (by first | exact Or.inl rfl | exact Or.inr rfl) (pe_lst (pa_cons (fldK K (pv 3) rfl) (pa_cons (pe_call (ok__law_bent T) (hr.mono (by decide)) (by rfl) T.g__law_bent T.F__law_bent.kp T.b__law_bent .nil pass0 (pa_cons (fldK K (pv 3) rfl) (pa_cons (pv 2) pa_nil))) (pa_cons (pe_lc (own := [("_law_cell", 9)]) (g := (gName 9)) (tt := tYes) rfl nd (pi_listK K (pv 2)) (blkOk_by (own := [("_law_cell", 9)]) (N := N__law_sums_right) (sc := defScope s__law_sums_right) (by decide +kernel)) (fun _ _ _ _ _ => (pg_name (i := 9) nd rfl (by first | exact Or.inl rfl | exact Or.inr rfl))) (fun _ _ _ _ _ => pts_nil) (fun _ _ _ _ _ => (pe_op op_sub (pe_op op_mod (pe_op op_fdivW (pv 9) pe_int) pe_int) pe_int))) pa_nil)))))
      (pss_cons (ps_set (i := 4) nd rfl (by first | exact Or.inl rfl | exact Or.inr rfl) (pe_op (addK K) (pv 4) (pe_lst (pa_cons (pe_lc (own := [("_law_pull", 10)]) (g := (gName 10)) (tt := tYes) rfl nd (pi_listK K (fldK K (pv 3) rfl)) (blkOk_by (own := [("_law_pull", 10)]) (N := N__law_sums_right) (sc := defScope s__law_sums_right) (by decide +kernel)) (fun _ _ _ _ _ => (pg_name (i := 10) nd rfl (by first | exact Or.inl rfl | exact Or.inr rfl))) (fun _ _ _ _ _ => pts_nil) (fun _ _ _ _ _ => (pe_un un_neg (pv 10)))) (pa_cons (pe_op (mulK K) (pe_lst (pa_cons pe_int pa_nil)) (pe_callB (lenK K) (by rfl) T.m_len bt_len (pa_cons (pv 0) pa_nil))) pa_nil)))))
      (pss_cons (ps_for PassesOwn.never rfl (pi_listK K (pe_lst (pa_cons (fldK K (pv 3) rfl) (pa_cons (pe_call (ok__law_bent T) (hr.mono (by decide)) (by rfl) T.g__law_bent T.F__law_bent.kp T.b__law_bent .nil pass0 (pa_cons (fldK K (pv 3) rfl) (pa_cons (pv 2) pa_nil))) (pa_cons (pe_call (ok_lower T) (hr.mono (by decide)) (by rfl) T.g_lower T.F_lower.kp T.b_lower .nil pass0 (pa_cons (pv 0) pa_nil)) (pa_cons (revK K (fldK K (pv 3) rfl)) pa_nil)))))) (pg_name (i := 5) nd rfl (by first | exact Or.inl rfl | exact Or.inr rfl)) (pss_one (ps_for PassesOwn.never rfl (pi_listK K (pv 4)) (pg_name (i := 6) nd rfl (by first | exact Or.inl rfl | exact Or.inr rfl)) (pss_cons (ps_set (i := 7) nd rfl (by first | exact Or.inl rfl | exact Or.inr rfl) (pe_lst (pa_cons (pe_callTy (listK K) (by rfl) T.m_list bt_list (pa_cons (pv 5) pa_nil)) (pa_cons (pe_callTy (listK K) (by rfl) T.m_list bt_list (pa_cons (pv 6) pa_nil)) pa_nil))))
      (pss_cons (ps_set (i := 8) nd rfl (by first | exact Or.inl rfl | exact Or.inr rfl) (pe_make T.k_Summed (ok_Summed___init__ T) (hr.mono (by decide)) (by rfl) T.g_Summed T.b_Summed___init__ .nil pass0 (pa_cons (pe_ix (ixK K) (pv 7) pe_int (fun _ _ => rfl)) (pa_cons (pe_ix (ixK K) (pv 7) pe_int (fun _ _ => rfl)) pa_nil))))
      (pss_cons (ps_expr (pe_bm PySem.F.plainAttrs_list PySem.F.slot_list_append PySem.F.type_list_append mt_append (pe_ix (ixK K) (pv 7) pe_int (fun _ _ => rfl)) (pa_cons pe_int pa_nil)))
      (pss_cons (ps_expr (pe_bm PySem.F.plainAttrs_list PySem.F.slot_list_append PySem.F.type_list_append mt_append (pe_ix (ixK K) (pv 7) pe_int (fun _ _ => rfl)) (pa_cons pe_int pa_nil)))
      (pss_cons (ps_if (PW.pt (pw_or (pt_cmpR (neK K hu) (fldK K (pv 8) rfl) (pv 5) (nomark _)) (pw_or1 (pt_cmpR (neK K hu) (fldK K (pv 8) rfl) (pv 6) (nomark _))))) (pss_one (ps_ret pe_bl)) pss_nil)
      (pss_one (ps_if (pt_not (pt_val (pe_call (ok__law_says T) (hr.mono (by decide)) (by rfl) T.g__law_says T.F__law_says.kp T.b__law_says .nil pass0 (pa_cons (pe_meth (pv 8) T.c_Summed T.m_Summed_shows (ok_Summed_shows T) (hr.mono (by decide)) T.b_Summed_shows .nil pass0 (pa_cons (pv 0) (pa_cons (pv 1) pa_nil))) (pa_cons (pe_call (ok__law_summed T) (hr.mono (by decide)) (by rfl) T.g__law_summed T.F__law_summed.kp T.b__law_summed .nil pass0 (pa_cons (pv 0) (pa_cons (pv 1) (pa_cons (pv 5) (pa_cons (pv 6) pa_nil))))) pa_nil))))) (pss_one (ps_ret pe_bl)) pss_nil))))))))))
      (pss_one (ps_ret pe_bl)))))), fun ds d h => ?_⟩
  obtain ⟨ns, ws, s, rfl, hP, hs, rfl⟩ := h
  change DS _ _ [B.im _, B.im _, B.im _, B.no, B.no, B.no, B.no, B.no, B.no, B.no, B.no] _
  have hl := rowS_len (ns := ns) (ws := ws)
  have hlp := pullS_len (ns := ns) (ws := ws)
  have hn := hP.l
  have n1000 : ns.length ≤ 1000 := by omega
  apply ds_seq
  apply ds_asg (d := .ins T.C_Summed (suF (.lst (dI (rowS ns ws))) (.lst (dI (pullS ns ws)))))
  · exact deo (de_callO (da_cons (de_var rfl) (da_cons (de_var rfl) da_nil)) (c_summed hP.l hP.e hP.w) rfl rfl)
  change DS _ _ [.im (.lst (dI ns)), .im (.lst (dI ws)), .im (.lst (dI s)), .im (.ins T.C_Summed [("row", .lst (dI (rowS ns ws))), ("pulls", .lst (dI (pullS ns ws)))]), .no, .no, .no, .no, .no, .no, .no] _
  have fr : ∀ {Γ : List B}, Γ[3]? = some (.im (.ins T.C_Summed [("row", .lst (dI (rowS ns ws))), ("pulls", .lst (dI (pullS ns ws)))])) → DE K (tFld K (tVar 3) "row") Γ (.lst (dI (rowS ns ws))) := fun h => de_fld (de_var h) T.c_Summed T.n_Summed_row look_hit
  have fp : ∀ {Γ : List B}, Γ[3]? = some (.im (.ins T.C_Summed [("row", .lst (dI (rowS ns ws))), ("pulls", .lst (dI (pullS ns ws)))])) → DE K (tFld K (tVar 3) "pulls") Γ (.lst (dI (pullS ns ws))) := fun h => de_fld (de_var h) T.c_Summed T.n_Summed_pulls (by walk_at "lk")
  apply ds_seq
  apply ds_asg (d := .lst [.lst (dI (pullS ns ws)), .lst (dI (bent (pullS ns ws) s)), .lst (dI (s.map fun c => c / 5 % 7 - 3))])
  · apply deo
    refine de_lst (da_cons (fp rfl) (da_cons (de_call (da_cons (fp rfl) (da_cons (de_var rfl) da_nil)) (c__law_bent (by omega) hs) rfl) (da_cons ?_ da_nil))) (Nat.le_of_ble_eq_true rfl)
    apply de_lcI (fun c : Int => c / 5 % 7 - 3) (xs := s) (enc := D.int)
    · exact di_list (de_var rfl)
    · omega
    · intro x hx
      refine ⟨_, dg_name _ (by decide), ?_⟩
      walk_at "de"
  apply ds_seq
  apply ds_asg (d := .lst ((suMany ns ws s).map rowD))
  · apply deo
    show DE _ _ _ (.lst ([.lst (dI (pullS ns ws)), .lst (dI (bent (pullS ns ws) s)), .lst (dI (s.map fun c => c / 5 % 7 - 3))] ++ [.lst (dI ((pullS ns ws).map fun x => -x)), .lst (dI (List.replicate ns.length 0))]))
    refine de_op (de_var rfl) (de_lst (da_cons ?_ (da_cons ?_ da_nil)) (Nat.le_of_ble_eq_true rfl)) (r2_cat (Nat.le_of_ble_eq_true rfl))
    · apply de_lcI (fun x : Int => -x) (xs := pullS ns ws) (enc := D.int)
      · exact di_list (fp rfl)
      · omega
      · intro x hx
        refine ⟨_, dg_name _ (by decide), ?_⟩
        walk_at "de"
    · rw [show dI (List.replicate ns.length 0) = List.replicate (dI ns).length (.int 0) by unfold dI; rw [List.map_replicate, List.length_map]]
      exact de_op (de_lst (da_cons de_int da_nil) (Nat.le_of_ble_eq_true rfl)) (de_cb (da_cons (de_var rfl) da_nil) rc_lenL) (r2_rep1 (by rw [List.length_map]; omega))
  apply ds_seq
  apply ds_for (I := fun i Γ' => ∃ b5 b6 b7 b8 b9 b10, Γ' = [.im (.lst (dI ns)), .im (.lst (dI ws)), .im (.lst (dI s)), .im (.ins T.C_Summed [("row", .lst (dI (rowS ns ws))), ("pulls", .lst (dI (pullS ns ws)))]), .im (.lst ((suMany ns ws s).map rowD)), b5, b6, b7, b8, b9, b10])
  · apply di_list (ds := (suRows ns ws s).map rowD)
    show DE _ _ _ (.lst [.lst (dI (rowS ns ws)), .lst (dI (bent (rowS ns ws) s)), .lst (dI (lof ns)), .lst (dI (rowS ns ws).reverse)])
    refine de_lst (da_cons (fr rfl) (da_cons (de_call (da_cons (fr rfl) (da_cons (de_var rfl) da_nil)) (c__law_bent (by omega) hs) rfl) (da_cons (de_callO (da_cons (de_var rfl) da_nil) (c_lower n1000) rfl rfl) (da_cons ?_ da_nil)))) (Nat.le_of_ble_eq_true rfl)
    unfold dI
    rw [List.map_reverse]
    exact de_rev (fr rfl)
  · exact ⟨_, _, _, _, _, _, rfl⟩
  · rintro i d Γ' hd ⟨b5, b6, b7, b8, b9, b10, rfl⟩
    obtain ⟨hi, rfl⟩ := map_get [] hd
    have hr := suRows_len (ws := ws) hn hs _ (getD_mem (z := []) hi)
    generalize (suRows ns ws s).getD i [] = r at *
    refine ⟨_, dg_name _ trivial, ?_⟩
    apply ds_for (I := fun j Γ' => ∃ b6 b7 b8 b9 b10, Γ' = [.im (.lst (dI ns)), .im (.lst (dI ws)), .im (.lst (dI s)), .im (.ins T.C_Summed [("row", .lst (dI (rowS ns ws))), ("pulls", .lst (dI (pullS ns ws)))]), .im (.lst ((suMany ns ws s).map rowD)), .im (.lst (dI r)), b6, b7, b8, b9, b10])
    · exact di_list (de_var rfl)
    · exact ⟨_, _, _, _, _, rfl⟩
    · rintro j d Γ' hd ⟨b6, b7, b8, b9, b10, rfl⟩
      obtain ⟨hj, rfl⟩ := map_get [] hd
      obtain ⟨hu, hf⟩ := suMany_ok hP hs _ (getD_mem (z := []) hj)
      generalize (suMany ns ws s).getD j [] = u at *
      have hS : SmIn ns ws u := ⟨hP.l, hP.e, hP.w, hP.n, hf⟩
      refine ⟨_, dg_name _ trivial, ?_⟩
      change DS _ _ [.im (.lst (dI ns)), .im (.lst (dI ws)), .im (.lst (dI s)), .im (.ins T.C_Summed [("row", .lst (dI (rowS ns ws))), ("pulls", .lst (dI (pullS ns ws)))]), .im (.lst ((suMany ns ws s).map rowD)), .im (.lst (dI r)), .im (.lst (dI u)), b7, b8, b9, b10] _
      apply ds_seq
      refine ds_asgX 7 (dxo (dx_ol (dax_cons (dx_list (da_cons (de_var rfl) da_nil)) (dax_cons (dx_list (da_cons (de_var rfl) da_nil)) dax_nil)) (Nat.le_of_ble_eq_true rfl))) ?_
      apply ds_seq
      refine ds_asgX 8 (dxo_op2 (fun xs ys => suC xs ys) 7 rfl (fun us vs _ _ => dx_make (da_cons (de_op (de_var rfl) de_int (r2_ixL rfl)) (da_cons (de_op (de_var rfl) de_int (r2_ixL rfl)) da_nil)) c_Summed___init__ rfl) (fun G us vs r1 r2 => .cons (.ow r1) (.cons (.ow r2) .nil))) ?_
      apply ds_seq
      refine ds_oapp 7 0 rfl de_int rfl rfl (deo de_int) (by rw [List.length_map]; omega) ?_
      apply ds_seq
      refine ds_oapp 7 1 rfl de_int rfl rfl (deo de_int) (by rw [List.length_map]; omega) ?_
      apply ds_seq
      refine ds_ifF (dto_fz ?_) (ds_next ?_)
      · walk_at "fzE"
        refine' dt_is _ _
        rotate_left
        · walk_at "de"
        · simp
      refine ds_ifF (dto_fz ?_) (ds_next ⟨_, _, _, _, _, rfl⟩)
      walk_at "fzE"
      refine' dt_is _ _
      rotate_left
      · walk_at "de"
        all_goals first | exact hS | omega
      · simp
    · rintro Γ' ⟨b6, b7, b8, b9, b10, rfl⟩
      exact ⟨_, _, _, _, _, _, rfl⟩
  · rintro Γ' ⟨b5, b6, b7, b8, b9, b10, rfl⟩
    exact ds_ret (deo de_bl) rfl
theorem c__law_sums_right {ns ws s : List Int} (h : PI7 ns ws) (h2 : s.length ≤ 63) : R__law_sums_right [.lst (dI ns), .lst (dI ws), .lst (dI s)] (.bl true) := ⟨_, _, _, rfl, h, h2, rfl⟩
end
end U

namespace U
open PySem PySem.Spec PyProof.Rows L2 DL
section
variable {P : Program} {w : World} {K : PySem.W.Frag} {mg : Str → Option Value} {base : Heap}
local macro_rules | `(tactic| walk_at "lk") => `(tactic| first | with_reducible exact look_hit | ((with_reducible refine look_miss (by decide +kernel) ?_); walk_at "lk") | with_reducible exact look_nil)
local macro_rules | `(tactic| walk_at "fz") => `(tactic| simp only [fz, fzB, chF, Ch.d, List.map, List.set])
local macro_rules | `(tactic| walk_at "ob") => `(tactic| first
  | ((with_reducible show look _ _ = _); walk_at "lk")
  | with_reducible apply de_callO | ((with_reducible show B.d _ = _); rfl) | ((with_reducible apply de_either1); (with_reducible apply de_meth); exact de_var rfl) | ((with_reducible apply de_either2); (with_reducible apply de_meth); exact de_var rfl)
  | with_reducible exact de_cls | with_reducible apply de_fld | with_reducible apply rc_isC | with_reducible apply de_meth
  | walk_at "cl")
local macro_rules | `(tactic| walk_at "r2") => `(tactic| (fail_if_success (with_reducible show R2D _ _ D.non _ _)); (fail_if_success (with_reducible show R2D _ _ _ D.non _)); first
  | exact r2_add | exact r2_sub | exact r2_lt | exact r2_le | exact r2_gt | exact r2_ge
  | with_reducible exact r2_p30 | with_reducible exact r2_p9
  | with_reducible apply r2_mod | with_reducible apply r2_fdiv | with_reducible apply r2_mul | with_reducible apply r2_pow | with_reducible apply r2_cat | with_reducible apply r2_rep1
  | exact r2_ixT rfl | exact r2_ixL rfl | with_reducible apply r2_ixN | with_reducible apply r2_ixI
  | exact r2_eqI | exact r2_neI | exact r2_eqB | exact r2_neB | exact r2_eqL | exact r2_neL | exact r2_isB | exact r2_notB)
local macro_rules | `(tactic| walk_at "rc") => `(tactic| (fail_if_success (with_reducible show RCD _ _ [D.non] _)); (fail_if_success (with_reducible show RCD _ _ [D.non, _] _)); (fail_if_success (with_reducible show RCD _ _ [_, D.non] _)); first
  | with_reducible exact rc_srt
  | exact rc_abs | exact rc_max2 | exact rc_min2 | exact rc_sum | exact rc_all | exact rc_any | exact rc_lenL | exact rc_lenT | exact rc_listL | exact rc_listT
  | with_reducible apply rc_int | with_reducible apply rc_bool | with_reducible apply rc_list | with_reducible apply rc_tuple)
local macro_rules | `(tactic| walk_at "d1") => `(tactic| first
  | with_reducible exact de_int | with_reducible exact de_bl | with_reducible exact de_non | exact de_var rfl
  | with_reducible exact da_nil | with_reducible apply da_cons
  | with_reducible apply de_op | with_reducible apply de_un | with_reducible apply de_cb | with_reducible apply de_call
  | with_reducible apply de_tup | with_reducible apply de_lst
  | with_reducible apply de_andV | with_reducible apply de_orV | with_reducible apply de_notV | ((with_reducible show _ = true → _); intro _) | ((with_reducible show _ = false → _); intro _)
  | with_reducible apply dt_and | with_reducible apply dt_or | with_reducible apply dt_not | with_reducible apply dt_test | with_reducible apply dt_B
  | with_reducible apply de_slice | with_reducible exact do_none | with_reducible apply do_some | with_reducible apply de_rev
  | with_reducible apply de_maxD | with_reducible apply de_chain3 | with_reducible apply de_chain
  | walk_at "r2" | walk_at "rc" | walk_at "ob"
  | ((with_reducible show R1D _ _ (D.int _) _); exact r1_neg)
  | with_reducible exact de_ty
  | with_reducible exact ne_int | with_reducible exact ne_lst | with_reducible exact ne_tup | with_reducible exact ne_bl
  | ((with_reducible show List.length _ = _); rfl) | ((with_reducible show List.length _ + 1 = _); rfl)
  | (with_reducible show List.length _ ≤ 1000); exact Nat.le_of_ble_eq_true rfl)
local macro_rules | `(tactic| walk_at "dg") => `(tactic| repeat' (first | exact dg_name _ trivial | exact dg_name _ (by decide) | with_reducible exact dg_nil | with_reducible apply dg_cons | with_reducible apply dg_tup | ((with_reducible show List.length _ = _); rfl)))
local macro_rules | `(tactic| walk_at "de") => `(tactic| repeat' walk_at "d1")
local macro_rules | `(tactic| walk_at "ret") => `(tactic| (apply ds_ret; apply deo; walk_at "de"))
local macro_rules | `(tactic| walk_at "asg") => `(tactic| (apply ds_seq; apply ds_asg; apply deo; walk_at "de"))
local macro_rules | `(tactic| walk_at "drop") => `(tactic| (apply ds_seq; apply ds_drop; apply deo; walk_at "de"))
local macro_rules | `(tactic| walk_at "par") => `(tactic| (apply ds_seq; apply ds_par; apply dao; walk_at "de"))
local macro_rules | `(tactic| walk_at "parG") => `(tactic| (apply ds_seq; apply ds_asgG; apply deo; walk_at "de"; walk_at "dg"))
local macro_rules | `(tactic| walk_at "lc") => `(tactic| first | with_reducible exact lookC_hit | with_reducible exact lookC_nil | ((with_reducible refine lookC_miss (by decide +kernel) ?_); walk_at "lc"))
local macro_rules | `(tactic| walk_at "pc") => `(tactic| first | with_reducible exact putC_hit | with_reducible exact putC_nil | ((with_reducible apply putC_miss); (decide +kernel); (walk_at "pc")))
local macro_rules | `(tactic| walk_at "cl") => `(tactic| first | with_reducible exact Tx.c_Band _ | with_reducible exact Tx.i_Band _ | with_reducible exact Tx.n_Band_lows _ | with_reducible exact Tx.n_Band_highs _ | with_reducible exact Tx.c_Barred _ | with_reducible exact Tx.i_Barred _ | with_reducible exact Tx.n_Barred_first _ | with_reducible exact Tx.n_Barred_second _ | with_reducible exact Tx.c_Evened _ | with_reducible exact Tx.i_Evened _ | with_reducible exact Tx.n_Evened_row _ | with_reducible exact Tx.n_Evened_first _ | with_reducible exact Tx.n_Evened_second _ | with_reducible exact Tx.c_Squared _ | with_reducible exact Tx.i_Squared _ | with_reducible exact Tx.n_Squared_row _ | with_reducible exact Tx.c_Summed _ | with_reducible exact Tx.i_Summed _ | with_reducible exact Tx.n_Summed_row _ | with_reducible exact Tx.n_Summed_pulls _ | with_reducible exact Tx.is_Band_Barred _ | with_reducible exact Tx.is_Band_Evened _ | with_reducible exact Tx.is_Band_Squared _ | with_reducible exact Tx.is_Band_Summed _ | with_reducible exact Tx.is_Barred_Band _ | with_reducible exact Tx.is_Barred_Evened _ | with_reducible exact Tx.is_Barred_Squared _ | with_reducible exact Tx.is_Barred_Summed _ | with_reducible exact Tx.is_Evened_Band _ | with_reducible exact Tx.is_Evened_Barred _ | with_reducible exact Tx.is_Evened_Squared _ | with_reducible exact Tx.is_Evened_Summed _ | with_reducible exact Tx.is_Squared_Band _ | with_reducible exact Tx.is_Squared_Barred _ | with_reducible exact Tx.is_Squared_Evened _ | with_reducible exact Tx.is_Squared_Summed _ | with_reducible exact Tx.is_Summed_Band _ | with_reducible exact Tx.is_Summed_Barred _ | with_reducible exact Tx.is_Summed_Evened _ | with_reducible exact Tx.is_Summed_Squared _| with_reducible exact (Tx.i_Band _).me | with_reducible exact (Tx.i_Barred _).me | with_reducible exact (Tx.i_Evened _).me | with_reducible exact (Tx.i_Squared _).me | with_reducible exact (Tx.i_Summed _).me)
local macro_rules | `(tactic| walk_at "d1") => `(tactic| first | exact c_common | with_reducible apply c_is_number)
local macro_rules | `(tactic| walk_at "d1") => `(tactic| with_reducible apply c_lowest)
local macro_rules | `(tactic| walk_at "d1") => `(tactic| with_reducible apply c_are_numbers)
local macro_rules | `(tactic| walk_at "d1") => `(tactic| with_reducible apply c_check_numbers)
local macro_rules | `(tactic| walk_at "d1") => `(tactic| with_reducible apply c_check_row)
local macro_rules | `(tactic| walk_at "d1") => `(tactic| with_reducible apply c_check_weights)
local macro_rules | `(tactic| walk_at "d1") => `(tactic| with_reducible apply c_greatest_of)
local macro_rules | `(tactic| walk_at "d1") => `(tactic| with_reducible apply c_sum_of)
local macro_rules | `(tactic| walk_at "d1") => `(tactic| first | with_reducible apply c_greatest | with_reducible apply c_summed_up | with_reducible exact c_is_fraction)
local macro_rules | `(tactic| walk_at "d1") => `(tactic| first | with_reducible exact c__law_whole2 | with_reducible apply c__law_whole)
local macro_rules | `(tactic| walk_at "d1") => `(tactic| with_reducible first | exact div21 | exact div3 | exact div2 | exact div5 | exact div7 | exact div30 | exact div230 | exact pos21 | exact pos2 | exact pos3 | exact pos5 | exact pos7 | exact pos9 | exact pos12 | exact posE30 | exact posE9 | exact mul2 | exact mul2l | exact mul3l)
local macro_rules | `(tactic| walk_at "d1") => `(tactic| first | with_reducible apply c__law_numbers | with_reducible apply c__law_weights)
local macro_rules | `(tactic| walk_at "d1") => `(tactic| with_reducible apply c_rises)
local macro_rules | `(tactic| walk_at "d1") => `(tactic| with_reducible apply c_highest_so_far)
local macro_rules | `(tactic| walk_at "d1") => `(tactic| with_reducible apply c_worst_places)
local macro_rules | `(tactic| walk_at "d1") => `(tactic| with_reducible apply c_Evened_shows)
local macro_rules | `(tactic| walk_at "d1") => `(tactic| with_reducible apply c__law_rises)
local macro_rules | `(tactic| walk_at "d1") => `(tactic| first | with_reducible apply c__law_even | with_reducible apply c__law_whole | with_reducible exact c__law_whole2)
local macro_rules | `(tactic| walk_at "d1") => `(tactic| first | with_reducible apply c_Band_shows | with_reducible exact c_Barred_shows)
local macro_rules | `(tactic| walk_at "d1") => `(tactic| with_reducible apply c_from_nought)
local macro_rules | `(tactic| walk_at "d1") => `(tactic| with_reducible exact c__law_says)
local macro_rules | `(tactic| walk_at "d1") => `(tactic| with_reducible first | exact div13 | exact div169 | exact pos13)
local macro_rules | `(tactic| walk_at "fzE") => `(tactic| (simp only [evC, suC, sqC, barC, bandC, fz, fzB, chF, Ch.d, List.map, List.set]))
local macro_rules | `(tactic| walk_at "d1") => `(tactic| first | with_reducible apply c_Summed_shows | with_reducible apply c__law_summed)
/-! ## the squared ones, made by hand -/
def rowQ (qs : List Rat) : D := .lst (qs.map qd)
def cutQ (qs : List Rat) (lo hi : Option Int) : List Rat := (qs.drop (HT.sIx qs.length 0 lo)).take (HT.sIx qs.length qs.length hi - HT.sIx qs.length 0 lo)
theorem cut_Q (qs : List Rat) (lo hi : Option Int) : DL.cutD (qs.map qd) lo hi = (cutQ qs lo hi).map qd := by
  unfold DL.cutD cutQ
  rw [List.length_map, List.map_take, List.map_drop]
theorem cutQ_mem {qs : List Rat} {lo hi : Option Int} {q : Rat} (h : q ∈ cutQ qs lo hi) : q ∈ qs := List.mem_of_mem_drop (List.mem_of_mem_take h)
theorem cutQ_len {qs : List Rat} {lo hi : Option Int} : (cutQ qs lo hi).length ≤ qs.length := by
  unfold cutQ
  rw [List.length_take, List.length_drop]
  omega
theorem zip_map {α β : Type} (f : α → D) (g : β → D) : ∀ (xs : List α) (ys : List β), zipD (xs.map f) (ys.map g) = (xs.zip ys).map fun p => D.tup [f p.1, g p.2]
  | [], [] => rfl
  | [], _ :: _ => rfl
  | _ :: _, [] => rfl
  | x :: xs, y :: ys => by
    show D.tup [f x, g y] :: zipD (xs.map f) (ys.map g) = _
    rw [zip_map f g xs ys]
    rfl
theorem at_last {xs : List D} {d : D} {n : Nat} (hn : xs.length = n + 1) (h : xs[n]? = some d) : atI xs (-1) = some d := by
  unfold atI ixN
  rw [if_neg (by decide), if_pos (by omega)]
  show xs[(-1 + (xs.length : Int)).toNat]? = _
  rw [hn, show (-1 + ((n + 1 : Nat) : Int)).toNat = n by omega]
  exact h
structure QT (q : Rat) : Prop where
  f : QFit 1048660 50 q
theorem QT.b {q : Rat} (h : QT q) : QB q := ⟨h.f.mono (by decide) (by decide)⟩
theorem rowOf_tight {ns ws : List Int} (h : PI7 ns ws) : ∀ q ∈ rowOf ns ws, QT q := by
  intro q hq
  obtain ⟨l, hl2, hq2⟩ := List.mem_flatten.mp hq
  obtain ⟨b, hb, rfl⟩ := List.mem_map.mp hl2
  have hb' := List.mem_reverse.mp hb
  have bd := stk_bd (fun n hn => (h.n n hn).mono (show 1048580 ≤ 1048600 by decide)) h.w h.e ns.length (Nat.le_refl _) b hb'
  have := tot_mem hb'
  rw [stk_tot] at this
  have hl := h.l
  have f := bd.fit (by omega)
  rw [(List.mem_replicate.mp hq2).2]
  exact ⟨(QFit.frac bd.w0 f.1 f.2).mono (by decide) (by decide)⟩
theorem QT.plus {q : Rat} (h : QT q) {a b : Int} (hb : 0 < b) (fa : Fit 42 a) (fb : Fit 5 b) : QB (q + frac a b) :=
  ⟨(h.f.add (QFit.frac hb fa fb) (k := 1048665) (by decide) (by decide)).mono (by decide) (by decide)⟩
theorem c__law_sum7 {p : Rat} {a b : Int} (hp : QT p) (hb : 0 < b) (fa : Fit 42 a) (fb : Fit 5 b) : R__law_sum [qd p, .tup [.int a, .int b]] (qd (p + frac a b)) := ⟨p.num, p.den, a, b, _, _, _, _, rfl, den_pos p, hb, hp.f.1, hp.f.2, fa, fb, by decide, by decide, by decide, by rw [frac_self]⟩
def total7 (ns ws : List Int) : Int := ((ns.zip ws).map fun p => p.1 * p.2).sum
def even7 (ns ws : List Int) : Rat := frac (total7 ns ws) (maxI 1 ws.sum)
theorem sum_abs7 {B : Nat} : ∀ {xs : List Int}, (∀ x ∈ xs, x.natAbs ≤ B) → xs.sum.natAbs ≤ xs.length * B
  | [], _ => Nat.zero_le _
  | x :: xs, h => by
    have a := sum_abs7 (xs := xs) fun y hy => h y (List.mem_cons_of_mem _ hy)
    have b := h x List.mem_cons_self
    rw [List.sum_cons, List.length_cons, Nat.add_mul, Nat.one_mul]
    omega
theorem max1_pos (z : Int) : 0 < maxI 1 z := by
  unfold maxI
  split <;> omega
theorem even7_den {ns ws : List Int} (h : PI7 ns ws) : Fit 50 (maxI 1 ws.sum) := by
  have a := sum_abs7 (B := 2 ^ 40) (xs := ws) fun w hw => by
    have := h.w w hw
    omega
  have b := Nat.mul_le_mul_right (2 ^ 40) (show ws.length ≤ 63 by have := h.e; have := h.l; omega)
  refine ⟨?_⟩
  unfold maxI
  split <;> omega
theorem total7_fit {ns ws : List Int} (h : PI7 ns ws) : Fit 1048640 (total7 ns ws) := by
  have a := sum_abs7 (B := 2 ^ 1048620) (xs := (ns.zip ws).map fun p => p.1 * p.2) fun x hx => by
    obtain ⟨⟨n, w⟩, hp, rfl⟩ := List.mem_map.mp hx
    have hn := h.n n (List.of_mem_zip hp).1
    have hw := h.w w (List.of_mem_zip hp).2
    have := (hn.mul (show Fit 40 w from ⟨by omega⟩)).1
    exact Nat.le_of_lt this
  refine ⟨?_⟩
  unfold total7
  have hl := h.l
  have b := Nat.mul_le_mul_right (2 ^ 1048620) (show ((ns.zip ws).map fun p => p.1 * p.2).length ≤ 63 by
    rw [List.length_map, List.length_zip]
    omega)
  have c := Nat.two_pow_pos 1048620
  rw [show (2 : Nat) ^ 1048640 = 2 ^ 1048620 * 2 ^ 20 from Nat.pow_add 2 1048620 20]
  generalize (2 : Nat) ^ 1048620 = z at *
  omega
theorem even7_b {ns ws : List Int} (h : PI7 ns ws) : QB (even7 ns ws) := ⟨(QFit.frac (max1_pos _) (total7_fit h) (even7_den h)).mono (by decide) (by decide)⟩
def asQ7 (ns : List Int) : List Rat := ns.map fun n : Int => ((n : Int) : Rat)
def bentQ (qs : List Rat) (s : List Int) : List Rat := (qs.zip s).map fun p => p.1 + frac (p.2 / 5 % 3 - 1) (1 + p.2 % 4)
def sqRows (ns ws s : List Int) : List (List Rat) := [rowOf ns ws, (rowOf ns ws).reverse, cutQ (rowOf ns ws) (some 1) none, asQ7 ns, rowOf ns ws ++ [0], bentQ (rowOf ns ws) s, List.replicate ns.length (even7 ns ws)]
structure Row7 (qs : List Rat) : Prop where
  l : qs.length ≤ 100
  q : ∀ q ∈ qs, QB q
theorem m4 (x : Int) : 0 < 1 + x % 4 ∧ 1 + x % 4 < 6 := by
  have z1 := Int.emod_nonneg x (show (4 : Int) ≠ 0 by decide)
  have z2 := Int.emod_lt_of_pos x (show (0 : Int) < 4 by decide)
  omega
theorem m3 (x : Int) : Fit 42 (x % 3 - 1) := by
  have z1 := Int.emod_nonneg x (show (3 : Int) ≠ 0 by decide)
  have z2 := Int.emod_lt_of_pos x (show (0 : Int) < 3 by decide)
  exact Fit.mono (m := 10) ⟨by omega⟩ (by decide)
theorem m4f (x : Int) : Fit 5 (1 + x % 4) := ⟨by
  have := m4 x
  omega⟩
theorem sqRows_ok {ns ws s : List Int} (h : PI7 ns ws) (h2 : s.length ≤ 63) : ∀ qs ∈ sqRows ns ws s, Row7 qs := fun qs hx => by
  have hl := rowOf_len h.e h.w
  have ht := rowOf_tight h
  have h63 := h.l
  unfold sqRows at hx
  simp only [List.mem_cons, List.not_mem_nil, or_false] at hx
  rcases hx with rfl | rfl | rfl | rfl | rfl | rfl | rfl
  · exact ⟨by omega, fun q hq => (ht q hq).b⟩
  · exact ⟨by rw [List.length_reverse]; omega, fun q hq => (ht q (List.mem_reverse.mp hq)).b⟩
  · exact ⟨Nat.le_trans cutQ_len (by omega), fun q hq => (ht q (cutQ_mem hq)).b⟩
  · refine ⟨by unfold asQ7; rw [List.length_map]; omega, fun q hq => ?_⟩
    obtain ⟨n, hn, rfl⟩ := List.mem_map.mp hq
    exact ⟨(QFit.int (h.n n hn)).mono (by decide) (by decide)⟩
  · refine ⟨by rw [List.length_append, List.length_singleton]; omega, fun q hq => ?_⟩
    rcases List.mem_append.mp hq with hq | hq
    · exact (ht q hq).b
    · rw [List.mem_singleton.mp hq]
      exact QB.zero
  · refine ⟨by unfold bentQ; rw [List.length_map, List.length_zip]; omega, fun q hq => ?_⟩
    obtain ⟨⟨p, c⟩, hp, rfl⟩ := List.mem_map.mp hq
    exact (ht p (List.of_mem_zip hp).1).plus (m4 c).1 (m3 _) (m4f c)
  · refine ⟨by rw [List.length_replicate]; omega, fun q hq => ?_⟩
    rw [(List.mem_replicate.mp hq).2]
    exact even7_b h
end
end U

namespace U
open PySem PySem.Spec PyProof.Rows L2 DL
section
variable {P : Program} {w : World} {K : PySem.W.Frag} {mg : Str → Option Value} {base : Heap}
local macro_rules | `(tactic| walk_at "lk") => `(tactic| first | with_reducible exact look_hit | ((with_reducible refine look_miss (by decide +kernel) ?_); walk_at "lk") | with_reducible exact look_nil)
local macro_rules | `(tactic| walk_at "fz") => `(tactic| simp only [fz, fzB, chF, Ch.d, List.map, List.set])
local macro_rules | `(tactic| walk_at "ob") => `(tactic| first
  | ((with_reducible show look _ _ = _); walk_at "lk")
  | with_reducible apply de_callO | ((with_reducible show B.d _ = _); rfl) | ((with_reducible apply de_either1); (with_reducible apply de_meth); exact de_var rfl) | ((with_reducible apply de_either2); (with_reducible apply de_meth); exact de_var rfl)
  | with_reducible exact de_cls | with_reducible apply de_fld | with_reducible apply rc_isC | with_reducible apply de_meth
  | walk_at "cl")
local macro_rules | `(tactic| walk_at "r2") => `(tactic| (fail_if_success (with_reducible show R2D _ _ D.non _ _)); (fail_if_success (with_reducible show R2D _ _ _ D.non _)); first
  | exact r2_add | exact r2_sub | exact r2_lt | exact r2_le | exact r2_gt | exact r2_ge
  | with_reducible exact r2_p30 | with_reducible exact r2_p9
  | with_reducible apply r2_mod | with_reducible apply r2_fdiv | with_reducible apply r2_mul | with_reducible apply r2_pow | with_reducible apply r2_cat | with_reducible apply r2_rep1
  | exact r2_ixT rfl | exact r2_ixL rfl | with_reducible apply r2_ixN | with_reducible apply r2_ixI
  | exact r2_eqI | exact r2_neI | exact r2_eqB | exact r2_neB | exact r2_eqL | exact r2_neL | exact r2_isB | exact r2_notB)
local macro_rules | `(tactic| walk_at "rc") => `(tactic| (fail_if_success (with_reducible show RCD _ _ [D.non] _)); (fail_if_success (with_reducible show RCD _ _ [D.non, _] _)); (fail_if_success (with_reducible show RCD _ _ [_, D.non] _)); first
  | with_reducible exact rc_srt
  | exact rc_abs | exact rc_max2 | exact rc_min2 | exact rc_sum | exact rc_all | exact rc_any | exact rc_lenL | exact rc_lenT | exact rc_listL | exact rc_listT
  | with_reducible apply rc_int | with_reducible apply rc_bool | with_reducible apply rc_list | with_reducible apply rc_tuple)
local macro_rules | `(tactic| walk_at "d1") => `(tactic| first
  | with_reducible exact de_int | with_reducible exact de_bl | with_reducible exact de_non | exact de_var rfl
  | with_reducible exact da_nil | with_reducible apply da_cons
  | with_reducible apply de_op | with_reducible apply de_un | with_reducible apply de_cb | with_reducible apply de_call
  | with_reducible apply de_tup | with_reducible apply de_lst
  | with_reducible apply de_andV | with_reducible apply de_orV | with_reducible apply de_notV | ((with_reducible show _ = true → _); intro _) | ((with_reducible show _ = false → _); intro _)
  | with_reducible apply dt_and | with_reducible apply dt_or | with_reducible apply dt_not | with_reducible apply dt_test | with_reducible apply dt_B
  | with_reducible apply de_slice | with_reducible exact do_none | with_reducible apply do_some | with_reducible apply de_rev
  | with_reducible apply de_maxD | with_reducible apply de_chain3 | with_reducible apply de_chain
  | walk_at "r2" | walk_at "rc" | walk_at "ob"
  | ((with_reducible show R1D _ _ (D.int _) _); exact r1_neg)
  | with_reducible exact de_ty
  | with_reducible exact ne_int | with_reducible exact ne_lst | with_reducible exact ne_tup | with_reducible exact ne_bl
  | ((with_reducible show List.length _ = _); rfl) | ((with_reducible show List.length _ + 1 = _); rfl)
  | (with_reducible show List.length _ ≤ 1000); exact Nat.le_of_ble_eq_true rfl)
local macro_rules | `(tactic| walk_at "dg") => `(tactic| repeat' (first | exact dg_name _ trivial | exact dg_name _ (by decide) | with_reducible exact dg_nil | with_reducible apply dg_cons | with_reducible apply dg_tup | ((with_reducible show List.length _ = _); rfl)))
local macro_rules | `(tactic| walk_at "de") => `(tactic| repeat' walk_at "d1")
local macro_rules | `(tactic| walk_at "ret") => `(tactic| (apply ds_ret; apply deo; walk_at "de"))
local macro_rules | `(tactic| walk_at "asg") => `(tactic| (apply ds_seq; apply ds_asg; apply deo; walk_at "de"))
local macro_rules | `(tactic| walk_at "drop") => `(tactic| (apply ds_seq; apply ds_drop; apply deo; walk_at "de"))
local macro_rules | `(tactic| walk_at "par") => `(tactic| (apply ds_seq; apply ds_par; apply dao; walk_at "de"))
local macro_rules | `(tactic| walk_at "parG") => `(tactic| (apply ds_seq; apply ds_asgG; apply deo; walk_at "de"; walk_at "dg"))
local macro_rules | `(tactic| walk_at "lc") => `(tactic| first | with_reducible exact lookC_hit | with_reducible exact lookC_nil | ((with_reducible refine lookC_miss (by decide +kernel) ?_); walk_at "lc"))
local macro_rules | `(tactic| walk_at "pc") => `(tactic| first | with_reducible exact putC_hit | with_reducible exact putC_nil | ((with_reducible apply putC_miss); (decide +kernel); (walk_at "pc")))
local macro_rules | `(tactic| walk_at "cl") => `(tactic| first | with_reducible exact Tx.c_Band _ | with_reducible exact Tx.i_Band _ | with_reducible exact Tx.n_Band_lows _ | with_reducible exact Tx.n_Band_highs _ | with_reducible exact Tx.c_Barred _ | with_reducible exact Tx.i_Barred _ | with_reducible exact Tx.n_Barred_first _ | with_reducible exact Tx.n_Barred_second _ | with_reducible exact Tx.c_Evened _ | with_reducible exact Tx.i_Evened _ | with_reducible exact Tx.n_Evened_row _ | with_reducible exact Tx.n_Evened_first _ | with_reducible exact Tx.n_Evened_second _ | with_reducible exact Tx.c_Squared _ | with_reducible exact Tx.i_Squared _ | with_reducible exact Tx.n_Squared_row _ | with_reducible exact Tx.c_Summed _ | with_reducible exact Tx.i_Summed _ | with_reducible exact Tx.n_Summed_row _ | with_reducible exact Tx.n_Summed_pulls _ | with_reducible exact Tx.is_Band_Barred _ | with_reducible exact Tx.is_Band_Evened _ | with_reducible exact Tx.is_Band_Squared _ | with_reducible exact Tx.is_Band_Summed _ | with_reducible exact Tx.is_Barred_Band _ | with_reducible exact Tx.is_Barred_Evened _ | with_reducible exact Tx.is_Barred_Squared _ | with_reducible exact Tx.is_Barred_Summed _ | with_reducible exact Tx.is_Evened_Band _ | with_reducible exact Tx.is_Evened_Barred _ | with_reducible exact Tx.is_Evened_Squared _ | with_reducible exact Tx.is_Evened_Summed _ | with_reducible exact Tx.is_Squared_Band _ | with_reducible exact Tx.is_Squared_Barred _ | with_reducible exact Tx.is_Squared_Evened _ | with_reducible exact Tx.is_Squared_Summed _ | with_reducible exact Tx.is_Summed_Band _ | with_reducible exact Tx.is_Summed_Barred _ | with_reducible exact Tx.is_Summed_Evened _ | with_reducible exact Tx.is_Summed_Squared _| with_reducible exact (Tx.i_Band _).me | with_reducible exact (Tx.i_Barred _).me | with_reducible exact (Tx.i_Evened _).me | with_reducible exact (Tx.i_Squared _).me | with_reducible exact (Tx.i_Summed _).me)
local macro_rules | `(tactic| walk_at "d1") => `(tactic| first | exact c_common | with_reducible apply c_is_number)
local macro_rules | `(tactic| walk_at "d1") => `(tactic| with_reducible apply c_lowest)
local macro_rules | `(tactic| walk_at "d1") => `(tactic| with_reducible apply c_are_numbers)
local macro_rules | `(tactic| walk_at "d1") => `(tactic| with_reducible apply c_check_numbers)
local macro_rules | `(tactic| walk_at "d1") => `(tactic| with_reducible apply c_check_row)
local macro_rules | `(tactic| walk_at "d1") => `(tactic| with_reducible apply c_check_weights)
local macro_rules | `(tactic| walk_at "d1") => `(tactic| with_reducible apply c_greatest_of)
local macro_rules | `(tactic| walk_at "d1") => `(tactic| with_reducible apply c_sum_of)
local macro_rules | `(tactic| walk_at "d1") => `(tactic| first | with_reducible apply c_greatest | with_reducible apply c_summed_up | with_reducible exact c_is_fraction)
local macro_rules | `(tactic| walk_at "d1") => `(tactic| first | with_reducible exact c__law_whole2 | with_reducible apply c__law_whole)
local macro_rules | `(tactic| walk_at "d1") => `(tactic| with_reducible first | exact div21 | exact div3 | exact div2 | exact div5 | exact div7 | exact div30 | exact div230 | exact pos21 | exact pos2 | exact pos3 | exact pos5 | exact pos7 | exact pos9 | exact pos12 | exact posE30 | exact posE9 | exact mul2 | exact mul2l | exact mul3l)
local macro_rules | `(tactic| walk_at "d1") => `(tactic| first | with_reducible apply c__law_numbers | with_reducible apply c__law_weights)
local macro_rules | `(tactic| walk_at "d1") => `(tactic| with_reducible apply c_rises)
local macro_rules | `(tactic| walk_at "d1") => `(tactic| with_reducible apply c_highest_so_far)
local macro_rules | `(tactic| walk_at "d1") => `(tactic| with_reducible apply c_worst_places)
local macro_rules | `(tactic| walk_at "d1") => `(tactic| with_reducible apply c_Evened_shows)
local macro_rules | `(tactic| walk_at "d1") => `(tactic| with_reducible apply c__law_rises)
local macro_rules | `(tactic| walk_at "d1") => `(tactic| first | with_reducible apply c__law_even | with_reducible apply c__law_whole | with_reducible exact c__law_whole2)
local macro_rules | `(tactic| walk_at "d1") => `(tactic| first | with_reducible apply c_Band_shows | with_reducible exact c_Barred_shows)
local macro_rules | `(tactic| walk_at "d1") => `(tactic| with_reducible apply c_from_nought)
local macro_rules | `(tactic| walk_at "d1") => `(tactic| with_reducible exact c__law_says)
local macro_rules | `(tactic| walk_at "d1") => `(tactic| with_reducible first | exact div13 | exact div169 | exact pos13)
local macro_rules | `(tactic| walk_at "fzE") => `(tactic| (simp only [evC, suC, sqC, barC, bandC, fz, fzB, chF, Ch.d, List.map, List.set]))
local macro_rules | `(tactic| walk_at "d1") => `(tactic| first | with_reducible apply c_Summed_shows | with_reducible apply c__law_summed)
local macro_rules | `(tactic| walk_at "d1") => `(tactic| first | with_reducible apply c_Squared_shows | with_reducible apply c__law_squared)
theorem mul_w7 {ws : List Int} (h : Wts ws) {w : Int} (hw : w ∈ ws) (x : Int) : CMulX x w := .inl (.inr (by
  have := h w hw
  exact ⟨by omega, by omega⟩))
theorem maxI_le {a b c : Int} (h : a ≤ c) (h2 : b ≤ c) : maxI a b ≤ c := by
  unfold maxI
  split <;> omega
theorem snocQ (rs : List (List Rat)) (r : List Rat) : rs.map rowQ ++ [rowQ r] = (rs ++ [r]).map rowQ := by rw [List.map_append, List.map_singleton]
def R__law_squares_right (ds : List D) (d : D) : Prop := ∃ ns ws s : List Int, ds = [.lst (dI ns), .lst (dI ws), .lst (dI s)] ∧ PI7 ns ws ∧ s.length ≤ 63 ∧ d = .bl true
theorem ok__law_squares_right (T : Tx K mg base) : FnOk P w K mg base CX0 5 T.a__law_squares_right T.d__law_squares_right ["_law_numbers_here", "_law_weights_here", "_law_script"] (spR K 3 R__law_squares_right) := by
  refine pure_ok T.F__law_squares_right sc__law_squares_right rfl (fun cdv A outer s H E hr => ?_)
  have nd := sc__law_squares_right.nd
  have hu := hr.units
  refine ⟨_, (pss_cons (ps_set (i := 3) nd rfl (by first | exact Or.inl rfl | exact Or.inr rfl) (fldK K (pe_call (ok_squared T) (hr.mono (by decide)) (by rfl) T.g_squared T.F_squared.kp T.b_squared .nil pass0 (pa_cons (pv 0) (pa_cons (pv 1) pa_nil))) rfl))
      (pss_cons (ps_set (i := 4) nd rfl (by first | exact Or.inl rfl | exact Or.inr rfl) (pe_lst (pa_cons (pv 3) (pa_cons (revK K (pv 3)) (pa_cons (pe_slice (sliceK K) (pv 3) (po_some pe_int) po_none) (pa_cons (pe_lc (own := [("_law_number", 11)]) (g := (gName 11)) (tt := tYes) rfl nd (pi_listK K (pv 0)) (blkOk_by (own := [("_law_number", 11)]) (N := N__law_squares_right) (sc := defScope s__law_squares_right) (by decide +kernel)) (fun _ _ _ _ _ => (pg_name (i := 11) nd rfl (by first | exact Or.inl rfl | exact Or.inr rfl))) (fun _ _ _ _ _ => pts_nil) (fun _ _ _ _ _ => (pe_tup (pa_cons (pv 11) (pa_cons pe_int pa_nil))))) (pa_cons (pe_op (addK K) (pv 3) (pe_lst (pa_cons (pe_tup (pa_cons pe_int (pa_cons pe_int pa_nil))) pa_nil))) pa_nil)))))))
      (pss_cons (ps_expr (pe_bm PySem.F.plainAttrs_list PySem.F.slot_list_append PySem.F.type_list_append mt_append (pv 4) (pa_cons (pe_lc (own := [("_law_one", 12), ("_law_cell", 13)]) (g := (gTup K 2 (gCons (gName 12) (gCons (gName 13) gNil)))) (tt := tYes) rfl nd (pi_zipK K (by rfl) T.m_zip (pa_cons (pv 3) (pa_cons (pv 2) pa_nil))) (blkOk_by (own := [("_law_one", 12), ("_law_cell", 13)]) (N := N__law_squares_right) (sc := defScope s__law_squares_right) (by decide +kernel)) (fun _ _ _ _ _ => (pg_tupK (n := 2) K rfl (pgs_cons (pg_name (i := 12) nd rfl (by first | exact Or.inl rfl | exact Or.inr rfl)) (pgs_cons (pg_name (i := 13) nd rfl (by first | exact Or.inl rfl | exact Or.inr rfl)) pgs_nil)))) (fun _ _ _ _ _ => pts_nil) (fun _ _ _ _ _ => (pe_call (ok__law_sum T) (hr.mono (by decide)) (by rfl) T.g__law_sum T.F__law_sum.kp T.b__law_sum .nil pass0 (pa_cons (pv 12) (pa_cons (pe_tup (pa_cons (pe_op op_sub (pe_op op_mod (pe_op op_fdivW (pv 13) pe_int) pe_int) pe_int) (pa_cons (pe_op (addK K) pe_int (pe_op op_mod (pv 13) pe_int)) pa_nil))) pa_nil))))) pa_nil)))
      (pss_cons (ps_set (i := 5) nd rfl (by first | exact Or.inl rfl | exact Or.inr rfl) (pe_callB (sumK K rfl) (by rfl) T.m_sum bt_sum (pa_cons (pe_lc (own := [("_law_number", 11), ("_law_weight", 14)]) (g := (gTup K 2 (gCons (gName 11) (gCons (gName 14) gNil)))) (tt := tYes) rfl nd (pi_zipK K (by rfl) T.m_zip (pa_cons (pv 0) (pa_cons (pv 1) pa_nil))) (blkOk_by (own := [("_law_number", 11), ("_law_weight", 14)]) (N := N__law_squares_right) (sc := defScope s__law_squares_right) (by decide +kernel)) (fun _ _ _ _ _ => (pg_tupK (n := 2) K rfl (pgs_cons (pg_name (i := 11) nd rfl (by first | exact Or.inl rfl | exact Or.inr rfl)) (pgs_cons (pg_name (i := 14) nd rfl (by first | exact Or.inl rfl | exact Or.inr rfl)) pgs_nil)))) (fun _ _ _ _ _ => pts_nil) (fun _ _ _ _ _ => (pe_op (mulK K) (pv 11) (pv 14)))) pa_nil)))
      (pss_cons (ps_expr (pe_bm PySem.F.plainAttrs_list PySem.F.slot_list_append PySem.F.type_list_append mt_append (pv 4) (pa_cons (pe_op (mulK K) (pe_lst (pa_cons (pe_call (ok__law_low T) (hr.mono (by decide)) (by rfl) T.g__law_low T.F__law_low.kp T.b__law_low .nil pass0 (pa_cons (pv 5) (pa_cons (pe_callB (call_max2 rfl) (by rfl) T.m_max bt_max (pa_cons pe_int (pa_cons (pe_callB (sumK K rfl) (by rfl) T.m_sum bt_sum (pa_cons (pv 1) pa_nil)) pa_nil))) pa_nil))) pa_nil)) (pe_callB (lenK K) (by rfl) T.m_len bt_len (pa_cons (pv 0) pa_nil))) pa_nil)))
      (pss_cons (ps_if (pt_cmpR op_gt (pe_callB (lenK K) (by rfl) T.m_len bt_len (pa_cons (pv 3) pa_nil)) pe_int (nomark _)) (pss_cons (ps_set (i := 6) nd rfl (by first | exact Or.inl rfl | exact Or.inr rfl) (pe_lst (pa_cons (pe_call (ok__law_sum T) (hr.mono (by decide)) (by rfl) T.g__law_sum T.F__law_sum.kp T.b__law_sum .nil pass0 (pa_cons (pe_ix (ixK K) (pv 3) pe_int (fun _ _ => rfl)) (pa_cons (pe_tup (pa_cons (pe_un un_neg (pe_ix (ixK K) (pv 1) (pe_un un_neg pe_int) (fun _ _ => rfl))) (pa_cons pe_int pa_nil))) pa_nil))) (pa_cons (pe_call (ok__law_sum T) (hr.mono (by decide)) (by rfl) T.g__law_sum T.F__law_sum.kp T.b__law_sum .nil pass0 (pa_cons (pe_ix (ixK K) (pv 3) (pe_un un_neg pe_int) (fun _ _ => rfl)) (pa_cons (pe_tup (pa_cons (pe_ix (ixK K) (pv 1) pe_int (fun _ _ => rfl)) (pa_cons pe_int pa_nil))) pa_nil))) pa_nil))))
      (pss_one (ps_expr (pe_bm PySem.F.plainAttrs_list PySem.F.slot_list_append PySem.F.type_list_append mt_append (pv 4) (pa_cons (pe_op (addK K) (pe_op (addK K) (pe_slice (sliceK K) (pv 6) po_none (po_some pe_int)) (pe_slice (sliceK K) (pv 3) (po_some pe_int) (po_some (pe_un un_neg pe_int)))) (pe_slice (sliceK K) (pv 6) (po_some pe_int) po_none)) pa_nil))))) pss_nil)
      (pss_cons (ps_for PassesOwn.never rfl (pi_listK K (pv 4)) (pg_name (i := 7) nd rfl (by first | exact Or.inl rfl | exact Or.inr rfl)) (pss_cons (ps_set (i := 8) nd rfl (by first | exact Or.inl rfl | exact Or.inr rfl) (pe_callTy (listK K) (by rfl) T.m_list bt_list (pa_cons (pv 7) pa_nil)))
      (pss_cons (ps_set (i := 9) nd rfl (by first | exact Or.inl rfl | exact Or.inr rfl) (pe_make T.k_Squared (ok_Squared___init__ T) (hr.mono (by decide)) (by rfl) T.g_Squared T.b_Squared___init__ .nil pass0 (pa_cons (pv 8) pa_nil)))
      (pss_cons (ps_expr (pe_bm PySem.F.plainAttrs_list PySem.F.slot_list_append PySem.F.type_list_append mt_append (pv 8) (pa_cons (pe_tup (pa_cons pe_int (pa_cons pe_int pa_nil))) pa_nil)))
      (pss_cons (ps_set (i := 10) nd rfl (by first | exact Or.inl rfl | exact Or.inr rfl) (pe_call (ok__law_squared T) (hr.mono (by decide)) (by rfl) T.g__law_squared T.F__law_squared.kp T.b__law_squared .nil pass0 (pa_cons (pv 0) (pa_cons (pv 1) (pa_cons (pv 7) pa_nil)))))
      (pss_one (ps_if (PW.pt (pw_or (pt_cmpR (neK K hu) (fldK K (pv 9) rfl) (pv 7) (nomark _)) (pw_or1 (pt_not (pt_val (pe_call (ok__law_says T) (hr.mono (by decide)) (by rfl) T.g__law_says T.F__law_says.kp T.b__law_says .nil pass0 (pa_cons (pe_meth (pv 9) T.c_Squared T.m_Squared_shows (ok_Squared_shows T) (hr.mono (by decide)) T.b_Squared_shows .nil pass0 (pa_cons (pv 0) (pa_cons (pv 1) pa_nil))) (pa_cons (pv 10) pa_nil)))))))) (pss_one (ps_ret pe_bl)) pss_nil)))))))
      (pss_one (ps_ret pe_bl))))))))), fun ds d h => ?_⟩
  obtain ⟨ns, ws, s, rfl, hP, hs, rfl⟩ := h
  change DS _ _ [B.im _, B.im _, B.im _, B.no, B.no, B.no, B.no, B.no, B.no, B.no, B.no, B.no, B.no, B.no, B.no] _
  have hl := rowOf_len hP.e hP.w
  have ht := rowOf_tight hP
  have hn := hP.l
  have hwe := hP.e
  have hw := hP.w
  have hall := sqRows_ok hP hs
  unfold sqRows at hall
  generalize hQ : rowOf ns ws = Q at *
  have h18 : ∀ n ∈ ns, Fit 1048600 n := fun n h => (hP.n n h).mono (by decide)
  apply ds_seq
  apply ds_asg (d := .lst (Q.map qd))
  · rw [← hQ]
    exact deo (de_fld (de_callO (da_cons (de_var rfl) (da_cons (de_var rfl) da_nil)) (c_squared hn hP.e hP.w h18) rfl rfl) T.c_Squared T.n_Squared_row look_hit)
  apply ds_seq
  refine ds_own 4 (ds := [rowQ Q, rowQ Q.reverse, rowQ (cutQ Q (some 1) none), rowQ (asQ7 ns), rowQ (Q ++ [0])]) (dao (da_cons (de_var rfl) (da_cons ?_ (da_cons ?_ (da_cons ?_ (da_cons ?_ da_nil)))))) (Nat.le_of_ble_eq_true rfl) ?_
  · unfold rowQ
    rw [List.map_reverse]
    exact de_rev (de_var rfl)
  · unfold rowQ
    rw [← cut_Q]
    exact de_slice (de_var rfl) (do_some de_int) do_none
  · show DE _ _ _ (.lst ((ns.map fun n : Int => ((n : Int) : Rat)).map qd))
    rw [List.map_map]
    apply de_lc (fun n : Int => qd (n : Rat)) (xs := ns) (enc := D.int)
    · exact di_list (de_var rfl)
    · omega
    · intro x hx
      refine ⟨_, dg_name _ (by decide), ?_⟩
      show DE _ _ _ (.tup [.int x, .int 1])
      walk_at "de"
  · show DE _ _ _ (.lst ((Q ++ [0]).map qd))
    rw [List.map_append]
    refine de_op (de_var rfl) (de_lst (ds := [qd 0]) (da_cons ?_ da_nil) (Nat.le_of_ble_eq_true rfl)) (r2_cat ?_)
    · show DE _ _ _ (.tup [.int 0, .int 1])
      walk_at "de"
    · rw [List.length_map, List.length_singleton]
      omega
  apply ds_seq
  refine ds_app 4 (d := rowQ (bentQ Q s)) rfl (deo ?_) (Nat.le_of_ble_eq_true rfl) ?_
  · show DE _ _ _ (.lst ((bentQ Q s).map qd))
    unfold bentQ
    rw [List.map_map]
    apply de_lc (fun p : Rat × Int => qd (p.1 + frac (p.2 / 5 % 3 - 1) (1 + p.2 % 4))) (xs := Q.zip s) (enc := fun p => D.tup [qd p.1, .int p.2])
    · rw [← zip_map]
      exact di_zip (da_cons (de_var rfl) (da_cons (de_var rfl) da_nil))
    · rw [List.length_zip]
      omega
    · intro p hp
      refine ⟨_, dg_tup (dg_cons (dg_name _ (by decide)) (dg_cons (dg_name _ (by decide)) dg_nil)) rfl, ?_⟩
      refine de_call (da_cons (de_var rfl) (da_cons (de_tup (da_cons ?_ (da_cons ?_ da_nil)) (Nat.le_of_ble_eq_true rfl)) da_nil)) (c__law_sum7 (ht _ (List.of_mem_zip hp).1) (m4 p.2).1 (m3 _) (m4f p.2)) rfl
      · walk_at "de"
      · walk_at "de"
        all_goals first | decide | skip
  apply ds_seq
  apply ds_asg (d := .int (total7 ns ws))
  · apply deo
    refine de_cb (da_cons ?_ da_nil) rc_sum
    apply de_lcI (fun p : Int × Int => p.1 * p.2) (xs := ns.zip ws) (enc := fun p => D.tup [.int p.1, .int p.2])
    · rw [← zip_map]
      exact di_zip (da_cons (de_var rfl) (da_cons (de_var rfl) da_nil))
    · rw [List.length_zip]
      omega
    · intro p hp
      refine ⟨_, dg_tup (dg_cons (dg_name _ (by decide)) (dg_cons (dg_name _ (by decide)) dg_nil)) rfl, ?_⟩
      exact de_op (de_var rfl) (de_var rfl) (r2_mul (mul_w7 hw (List.of_mem_zip hp).2 _))
  apply ds_seq
  refine ds_app 4 (d := rowQ (List.replicate ns.length (even7 ns ws))) rfl (deo ?_) (Nat.le_of_ble_eq_true rfl) ?_
  · show DE _ _ _ (.lst ((List.replicate ns.length (even7 ns ws)).map qd))
    rw [List.map_replicate, show List.replicate ns.length (qd (even7 ns ws)) = List.replicate (dI ns).length (qd (even7 ns ws)) by rw [List.length_map]]
    refine de_op (de_lst (da_cons ?_ da_nil) (Nat.le_of_ble_eq_true rfl)) (de_cb (da_cons (de_var rfl) da_nil) rc_lenL) (r2_rep1 (by rw [List.length_map]; omega))
    refine de_call (da_cons (de_var rfl) (da_cons ?_ da_nil)) (c_lowest (max1_pos ws.sum) ((even7_den hP).mono (by decide))) rfl
    exact de_cb (da_cons de_int (da_cons (de_cb (da_cons (de_var rfl) da_nil) rc_sum) da_nil)) rc_max2
  refine ds_cutP (fun Γ' => ∃ (b6 : B) (rs : List (List Rat)), Γ' = [.im (.lst (dI ns)), .im (.lst (dI ws)), .im (.lst (dI s)), .im (.lst (Q.map qd)), .ow (rs.map rowQ), .im (.int (total7 ns ws)), b6, .no, .no, .no, .no, .no, .no, .no, .no] ∧ ∀ qs ∈ rs, Row7 qs) ?_ ?_
  · apply ds_if (b := decide ((1 : Int) < (Q.length : Int)))
    · apply dto
      rw [show (Q.length : Int) = ((Q.map qd).length : Int) by rw [List.length_map]]
      exact dt_test (de_op (de_cb (da_cons (de_var rfl) da_nil) rc_lenL) de_int r2_gt)
    · intro hb
      have h1 : 1 < Q.length := by
        have := of_decide_eq_true hb
        omega
      obtain ⟨m, hm⟩ : ∃ m, ns.length = m + 1 := ⟨ns.length - 1, by omega⟩
      have w0 := hw _ (getD_mem (z := 0) (show 0 < ws.length by omega))
      have wl := hw _ (getD_mem (z := 0) (show m < ws.length by omega))
      have q0 := ht _ (getD_mem (z := 0) (show 0 < Q.length by omega))
      have ql := ht _ (getD_mem (z := 0) (show m < Q.length by omega))
      have f0 : Fit 42 (ws.getD 0 0) := ⟨by omega⟩
      have fl : Fit 42 (-ws.getD m 0) := ⟨by omega⟩
      have f1 : Fit 5 1 := ⟨by decide⟩
      obtain ⟨E, hE⟩ : ∃ E, E = [Q.getD 0 0 + frac (-ws.getD m 0) 1, Q.getD m 0 + frac (ws.getD 0 0) 1] := ⟨_, rfl⟩
      have ex : ∀ q ∈ E, QB q := fun q hq => by
        rw [hE] at hq
        simp only [List.mem_cons, List.not_mem_nil, or_false] at hq
        rcases hq with rfl | rfl
        · exact q0.plus (by decide) fl f1
        · exact ql.plus (by decide) f0 f1
      have el : E.length = 2 := by rw [hE]; rfl
      apply ds_seq
      apply ds_asg (d := .lst (E.map qd))
      · apply deo
        rw [hE]
        show DE _ _ _ (.lst [qd (Q.getD 0 0 + frac (-ws.getD m 0) 1), qd (Q.getD m 0 + frac (ws.getD 0 0) 1)])
        refine de_lst (da_cons (de_call (da_cons (de_op (de_var rfl) de_int (r2_ixL (at_Q (i := 0) rfl (by omega)))) (da_cons (de_tup (da_cons (de_un (de_op (de_var rfl) (de_un de_int r1_neg) (r2_ixL (at_last (n := m) (by rw [List.length_map]; omega) ?_))) r1_neg) (da_cons de_int da_nil)) (Nat.le_of_ble_eq_true rfl)) da_nil)) (c__law_sum7 q0 (by decide) fl f1) rfl)
          (da_cons (de_call (da_cons (de_op (de_var rfl) (de_un de_int r1_neg) (r2_ixL (at_last (n := m) (by rw [List.length_map]; omega) ?_))) (da_cons (de_tup (da_cons (de_op (de_var rfl) de_int (r2_ixN (i := 0) (by omega))) (da_cons de_int da_nil)) (Nat.le_of_ble_eq_true rfl)) da_nil)) (c__law_sum7 ql (by decide) f0 f1) rfl) da_nil)) (Nat.le_of_ble_eq_true rfl)
        · rw [List.getElem?_map, List.getD_eq_getElem?_getD, List.getElem?_eq_getElem (by omega)]
          rfl
        · rw [List.getElem?_map, List.getD_eq_getElem?_getD, List.getElem?_eq_getElem (by omega)]
          rfl
      refine ds_app 4 (d := rowQ ((cutQ E none (some 1) ++ cutQ Q (some 1) (some (-1))) ++ cutQ E (some 1) none)) rfl (deo ?_) (Nat.le_of_ble_eq_true rfl) ?_
      · show DE _ _ _ (.lst (((cutQ E none (some 1) ++ cutQ Q (some 1) (some (-1))) ++ cutQ E (some 1) none).map qd))
        rw [List.map_append, List.map_append, ← cut_Q, ← cut_Q, ← cut_Q]
        have c1 := cutQ_len (qs := E) (lo := none) (hi := some 1)
        have c2 := cutQ_len (qs := Q) (lo := some 1) (hi := some (-1))
        have c3 := cutQ_len (qs := E) (lo := some 1) (hi := none)
        refine de_op (de_op (de_slice (de_var rfl) do_none (do_some de_int)) (de_slice (de_var rfl) (do_some de_int) (do_some (de_un de_int r1_neg))) (r2_cat ?_)) (de_slice (de_var rfl) (do_some de_int) do_none) (r2_cat ?_)
        · rw [cut_Q, cut_Q, List.length_map, List.length_map]
          omega
        · rw [cut_Q, cut_Q, cut_Q, List.length_append, List.length_map, List.length_map, List.length_map]
          omega
      · refine ⟨.im (.lst (E.map qd)), [Q, Q.reverse, cutQ Q (some 1) none, asQ7 ns, Q ++ [0], bentQ Q s, List.replicate ns.length (even7 ns ws), (cutQ E none (some 1) ++ cutQ Q (some 1) (some (-1))) ++ cutQ E (some 1) none], rfl, fun qs hq => ?_⟩
        rcases List.mem_append.mp (show qs ∈ [Q, Q.reverse, cutQ Q (some 1) none, asQ7 ns, Q ++ [0], bentQ Q s, List.replicate ns.length (even7 ns ws)] ++ [(cutQ E none (some 1) ++ cutQ Q (some 1) (some (-1))) ++ cutQ E (some 1) none] from hq) with hq | hq
        · exact hall qs hq
        · rw [List.mem_singleton.mp hq]
          have c1 := cutQ_len (qs := E) (lo := none) (hi := some 1)
          have c2 := cutQ_len (qs := Q) (lo := some 1) (hi := some (-1))
          have c3 := cutQ_len (qs := E) (lo := some 1) (hi := none)
          refine ⟨by rw [List.length_append, List.length_append]; omega, fun q hq => ?_⟩
          rcases List.mem_append.mp hq with hq | hq
          · rcases List.mem_append.mp hq with hq | hq
            · exact ex q (cutQ_mem hq)
            · exact (ht q (cutQ_mem hq)).b
          · exact ex q (cutQ_mem hq)
    · intro _
      exact ds_next ⟨.no, [Q, Q.reverse, cutQ Q (some 1) none, asQ7 ns, Q ++ [0], bentQ Q s, List.replicate ns.length (even7 ns ws)], rfl, hall⟩
  rintro X ⟨b6, rs, rfl, hrs⟩
  refine ds_give 4 (ds := rs.map rowQ) rfl ?_
  apply ds_seq
  apply ds_for (I := fun i Γ' => ∃ b7 b8 b9 b10 b11 b12 b13 b14, Γ' = [.im (.lst (dI ns)), .im (.lst (dI ws)), .im (.lst (dI s)), .im (.lst (Q.map qd)), .im (.lst (rs.map rowQ)), .im (.int (total7 ns ws)), b6, b7, b8, b9, b10, b11, b12, b13, b14])
  · exact di_list (de_var rfl)
  · exact ⟨_, _, _, _, _, _, _, _, rfl⟩
  · rintro i d Γ' hd ⟨b7, b8, b9, b10, b11, b12, b13, b14, rfl⟩
    obtain ⟨hi, rfl⟩ := map_get [] hd
    have hr := hrs _ (getD_mem (z := []) hi)
    generalize rs.getD i [] = r at *
    have hS : SqIn ns r ws := ⟨hn, hP.e, hw, h18, hr.q⟩
    have hrl := hr.l
    refine ⟨_, dg_name _ trivial, ?_⟩
    change DS _ _ [.im (.lst (dI ns)), .im (.lst (dI ws)), .im (.lst (dI s)), .im (.lst (Q.map qd)), .im (.lst (rs.map rowQ)), .im (.int (total7 ns ws)), b6, .im (.lst (r.map qd)), b8, b9, b10, b11, b12, b13, b14] _
    apply ds_seq
    refine ds_asgX 8 (dxo (dx_list (da_cons (de_var rfl) da_nil))) ?_
    apply ds_seq
    refine ds_asgX 9 (dxo_op1 (fun xs => sqC xs) 8 rfl (fun us hl => dx_make (da_cons (de_var rfl) da_nil) c_Squared___init__ rfl) (fun G us r => .cons (.ow r) .nil)) ?_
    apply ds_seq
    refine ds_app 8 (d := .tup [.int 0, .int 1]) rfl (deo (by walk_at "de")) (by rw [List.length_map]; omega) ?_
    apply ds_seq
    refine ds_asg 10 (d := .bl (sqOk ns r ws)) (deo (de_call (da_cons (de_var rfl) (da_cons (de_var rfl) (da_cons (de_var rfl) da_nil))) (c__law_squared hS) rfl)) ?_
    refine ds_ifF (dto_fz ?_) (ds_next ⟨_, _, _, _, _, _, _, _, rfl⟩)
    walk_at "fzE"
    refine dt_or (x := false) (y := false) (dt_test (de_op (a := .lst (r.map qd)) (b := .lst (r.map qd)) (de_fld (de_var rfl) T.c_Squared T.n_Squared_row look_hit) (de_var rfl) (r2_neS 2 (deep_map 1 r (dp_qd 0))))) fun _ => dt_not (x := true) (dt_test ?_)
    refine' de_is _ _
    rotate_left
    · walk_at "de"
      all_goals exact hS
    · simp
  · rintro Γ' ⟨b7, b8, b9, b10, b11, b12, b13, b14, rfl⟩
    exact ds_ret (deo de_bl) rfl
theorem c__law_squares_right {ns ws s : List Int} (h : PI7 ns ws) (h2 : s.length ≤ 63) : R__law_squares_right [.lst (dI ns), .lst (dI ws), .lst (dI s)] (.bl true) := ⟨_, _, _, rfl, h, h2, rfl⟩
end
end U

namespace U
open PySem PySem.Spec PyProof.Rows L2 DL
section
variable {P : Program} {w : World} {K : PySem.W.Frag} {mg : Str → Option Value} {base : Heap}
local macro_rules | `(tactic| walk_at "lk") => `(tactic| first | with_reducible exact look_hit | ((with_reducible refine look_miss (by decide +kernel) ?_); walk_at "lk") | with_reducible exact look_nil)
local macro_rules | `(tactic| walk_at "fz") => `(tactic| simp only [fz, fzB, chF, Ch.d, List.map, List.set])
local macro_rules | `(tactic| walk_at "ob") => `(tactic| first
  | ((with_reducible show look _ _ = _); walk_at "lk")
  | with_reducible apply de_callO | ((with_reducible show B.d _ = _); rfl) | ((with_reducible apply de_either1); (with_reducible apply de_meth); exact de_var rfl) | ((with_reducible apply de_either2); (with_reducible apply de_meth); exact de_var rfl)
  | with_reducible exact de_cls | with_reducible apply de_fld | with_reducible apply rc_isC | with_reducible apply de_meth
  | walk_at "cl")
local macro_rules | `(tactic| walk_at "r2") => `(tactic| (fail_if_success (with_reducible show R2D _ _ D.non _ _)); (fail_if_success (with_reducible show R2D _ _ _ D.non _)); first
  | exact r2_add | exact r2_sub | exact r2_lt | exact r2_le | exact r2_gt | exact r2_ge
  | with_reducible exact r2_p30 | with_reducible exact r2_p9
  | with_reducible apply r2_mod | with_reducible apply r2_fdiv | with_reducible apply r2_mul | with_reducible apply r2_pow | with_reducible apply r2_cat | with_reducible apply r2_rep1
  | exact r2_ixT rfl | exact r2_ixL rfl | with_reducible apply r2_ixN | with_reducible apply r2_ixI
  | exact r2_eqI | exact r2_neI | exact r2_eqB | exact r2_neB | exact r2_eqL | exact r2_neL | exact r2_isB | exact r2_notB)
local macro_rules | `(tactic| walk_at "rc") => `(tactic| (fail_if_success (with_reducible show RCD _ _ [D.non] _)); (fail_if_success (with_reducible show RCD _ _ [D.non, _] _)); (fail_if_success (with_reducible show RCD _ _ [_, D.non] _)); first
  | with_reducible exact rc_srt
  | exact rc_abs | exact rc_max2 | exact rc_min2 | exact rc_sum | exact rc_all | exact rc_any | exact rc_lenL | exact rc_lenT | exact rc_listL | exact rc_listT
  | with_reducible apply rc_int | with_reducible apply rc_bool | with_reducible apply rc_list | with_reducible apply rc_tuple)
local macro_rules | `(tactic| walk_at "d1") => `(tactic| first
  | with_reducible exact de_int | with_reducible exact de_bl | with_reducible exact de_non | exact de_var rfl
  | with_reducible exact da_nil | with_reducible apply da_cons
  | with_reducible apply de_op | with_reducible apply de_un | with_reducible apply de_cb | with_reducible apply de_call
  | with_reducible apply de_tup | with_reducible apply de_lst
  | with_reducible apply de_andV | with_reducible apply de_orV | with_reducible apply de_notV | ((with_reducible show _ = true → _); intro _) | ((with_reducible show _ = false → _); intro _)
  | with_reducible apply dt_and | with_reducible apply dt_or | with_reducible apply dt_not | with_reducible apply dt_test | with_reducible apply dt_B
  | with_reducible apply de_slice | with_reducible exact do_none | with_reducible apply do_some | with_reducible apply de_rev
  | with_reducible apply de_maxD | with_reducible apply de_chain3 | with_reducible apply de_chain
  | walk_at "r2" | walk_at "rc" | walk_at "ob"
  | ((with_reducible show R1D _ _ (D.int _) _); exact r1_neg)
  | with_reducible exact de_ty
  | with_reducible exact ne_int | with_reducible exact ne_lst | with_reducible exact ne_tup | with_reducible exact ne_bl
  | ((with_reducible show List.length _ = _); rfl) | ((with_reducible show List.length _ + 1 = _); rfl)
  | (with_reducible show List.length _ ≤ 1000); exact Nat.le_of_ble_eq_true rfl)
local macro_rules | `(tactic| walk_at "dg") => `(tactic| repeat' (first | exact dg_name _ trivial | exact dg_name _ (by decide) | with_reducible exact dg_nil | with_reducible apply dg_cons | with_reducible apply dg_tup | ((with_reducible show List.length _ = _); rfl)))
local macro_rules | `(tactic| walk_at "de") => `(tactic| repeat' walk_at "d1")
local macro_rules | `(tactic| walk_at "ret") => `(tactic| (apply ds_ret; apply deo; walk_at "de"))
local macro_rules | `(tactic| walk_at "asg") => `(tactic| (apply ds_seq; apply ds_asg; apply deo; walk_at "de"))
local macro_rules | `(tactic| walk_at "drop") => `(tactic| (apply ds_seq; apply ds_drop; apply deo; walk_at "de"))
local macro_rules | `(tactic| walk_at "par") => `(tactic| (apply ds_seq; apply ds_par; apply dao; walk_at "de"))
local macro_rules | `(tactic| walk_at "parG") => `(tactic| (apply ds_seq; apply ds_asgG; apply deo; walk_at "de"; walk_at "dg"))
local macro_rules | `(tactic| walk_at "lc") => `(tactic| first | with_reducible exact lookC_hit | with_reducible exact lookC_nil | ((with_reducible refine lookC_miss (by decide +kernel) ?_); walk_at "lc"))
local macro_rules | `(tactic| walk_at "pc") => `(tactic| first | with_reducible exact putC_hit | with_reducible exact putC_nil | ((with_reducible apply putC_miss); (decide +kernel); (walk_at "pc")))
local macro_rules | `(tactic| walk_at "cl") => `(tactic| first | with_reducible exact Tx.c_Band _ | with_reducible exact Tx.i_Band _ | with_reducible exact Tx.n_Band_lows _ | with_reducible exact Tx.n_Band_highs _ | with_reducible exact Tx.c_Barred _ | with_reducible exact Tx.i_Barred _ | with_reducible exact Tx.n_Barred_first _ | with_reducible exact Tx.n_Barred_second _ | with_reducible exact Tx.c_Evened _ | with_reducible exact Tx.i_Evened _ | with_reducible exact Tx.n_Evened_row _ | with_reducible exact Tx.n_Evened_first _ | with_reducible exact Tx.n_Evened_second _ | with_reducible exact Tx.c_Squared _ | with_reducible exact Tx.i_Squared _ | with_reducible exact Tx.n_Squared_row _ | with_reducible exact Tx.c_Summed _ | with_reducible exact Tx.i_Summed _ | with_reducible exact Tx.n_Summed_row _ | with_reducible exact Tx.n_Summed_pulls _ | with_reducible exact Tx.is_Band_Barred _ | with_reducible exact Tx.is_Band_Evened _ | with_reducible exact Tx.is_Band_Squared _ | with_reducible exact Tx.is_Band_Summed _ | with_reducible exact Tx.is_Barred_Band _ | with_reducible exact Tx.is_Barred_Evened _ | with_reducible exact Tx.is_Barred_Squared _ | with_reducible exact Tx.is_Barred_Summed _ | with_reducible exact Tx.is_Evened_Band _ | with_reducible exact Tx.is_Evened_Barred _ | with_reducible exact Tx.is_Evened_Squared _ | with_reducible exact Tx.is_Evened_Summed _ | with_reducible exact Tx.is_Squared_Band _ | with_reducible exact Tx.is_Squared_Barred _ | with_reducible exact Tx.is_Squared_Evened _ | with_reducible exact Tx.is_Squared_Summed _ | with_reducible exact Tx.is_Summed_Band _ | with_reducible exact Tx.is_Summed_Barred _ | with_reducible exact Tx.is_Summed_Evened _ | with_reducible exact Tx.is_Summed_Squared _| with_reducible exact (Tx.i_Band _).me | with_reducible exact (Tx.i_Barred _).me | with_reducible exact (Tx.i_Evened _).me | with_reducible exact (Tx.i_Squared _).me | with_reducible exact (Tx.i_Summed _).me)
local macro_rules | `(tactic| walk_at "d1") => `(tactic| first | exact c_common | with_reducible apply c_is_number)
local macro_rules | `(tactic| walk_at "d1") => `(tactic| with_reducible apply c_lowest)
local macro_rules | `(tactic| walk_at "d1") => `(tactic| with_reducible apply c_are_numbers)
local macro_rules | `(tactic| walk_at "d1") => `(tactic| with_reducible apply c_check_numbers)
local macro_rules | `(tactic| walk_at "d1") => `(tactic| with_reducible apply c_check_row)
local macro_rules | `(tactic| walk_at "d1") => `(tactic| with_reducible apply c_check_weights)
local macro_rules | `(tactic| walk_at "d1") => `(tactic| with_reducible apply c_greatest_of)
local macro_rules | `(tactic| walk_at "d1") => `(tactic| with_reducible apply c_sum_of)
local macro_rules | `(tactic| walk_at "d1") => `(tactic| first | with_reducible apply c_greatest | with_reducible apply c_summed_up | with_reducible exact c_is_fraction)
local macro_rules | `(tactic| walk_at "d1") => `(tactic| first | with_reducible exact c__law_whole2 | with_reducible apply c__law_whole)
local macro_rules | `(tactic| walk_at "d1") => `(tactic| with_reducible first | exact div21 | exact div3 | exact div2 | exact div5 | exact div7 | exact div30 | exact div230 | exact pos21 | exact pos2 | exact pos3 | exact pos5 | exact pos7 | exact pos9 | exact pos12 | exact posE30 | exact posE9 | exact mul2 | exact mul2l | exact mul3l)
local macro_rules | `(tactic| walk_at "d1") => `(tactic| first | with_reducible apply c__law_numbers | with_reducible apply c__law_weights)
local macro_rules | `(tactic| walk_at "d1") => `(tactic| with_reducible apply c_rises)
local macro_rules | `(tactic| walk_at "d1") => `(tactic| with_reducible apply c_highest_so_far)
local macro_rules | `(tactic| walk_at "d1") => `(tactic| with_reducible apply c_worst_places)
local macro_rules | `(tactic| walk_at "d1") => `(tactic| with_reducible apply c_Evened_shows)
local macro_rules | `(tactic| walk_at "d1") => `(tactic| with_reducible apply c__law_rises)
local macro_rules | `(tactic| walk_at "d1") => `(tactic| first | with_reducible apply c__law_even | with_reducible apply c__law_whole | with_reducible exact c__law_whole2)
local macro_rules | `(tactic| walk_at "d1") => `(tactic| first | with_reducible apply c_Band_shows | with_reducible exact c_Barred_shows)
local macro_rules | `(tactic| walk_at "d1") => `(tactic| with_reducible apply c_from_nought)
local macro_rules | `(tactic| walk_at "d1") => `(tactic| with_reducible exact c__law_says)
local macro_rules | `(tactic| walk_at "d1") => `(tactic| with_reducible first | exact div13 | exact div169 | exact pos13)
local macro_rules | `(tactic| walk_at "fzE") => `(tactic| (simp only [evC, suC, sqC, barC, bandC, fz, fzB, chF, Ch.d, List.map, List.set]))
local macro_rules | `(tactic| walk_at "d1") => `(tactic| first | with_reducible apply c_Summed_shows | with_reducible apply c__law_summed)
local macro_rules | `(tactic| walk_at "d1") => `(tactic| first | with_reducible apply c_Squared_shows | with_reducible apply c__law_squared)
/-! ## bands made by hand -/
def goodB (ns : List Int) (m : Int) : Bool := ((List.range ns.length).map fun i => decide ((lowsOf ns m).getD i 0 ≤ (highsOf ns m).getD i 0)).all id
theorem band_due (ns ls hs : List Int) (m : Int) : bandOk ns ls hs m = (goodB ns m && (decide (ls = lowsOf ns m) && decide (hs = highsOf ns m))) := by
  unfold bandOk goodB
  by_cases h1 : ls = lowsOf ns m
  · by_cases h2 : hs = highsOf ns m
    · rw [if_pos h1, if_pos h2, decide_eq_true h1, decide_eq_true h2, h1, h2]
      simp
    · rw [if_pos h1, if_neg h2, decide_eq_false h2, Bool.and_false, Bool.and_false]
  · rw [if_neg h1, decide_eq_false h1, Bool.false_and, Bool.and_false]
def bdPairs (ns s : List Int) (m : Int) : List (List Int × List Int) := [(lowsOf ns m, highsOf ns m), (highsOf ns m, lowsOf ns m), (bent (lowsOf ns m) s, highsOf ns m), (lowsOf ns m, bent (highsOf ns m) s)]
def pairL (p : List Int × List Int) : D := .tup [.lst (dI p.1), .lst (dI p.2)]
theorem bdPairs_len {ns s : List Int} {m : Int} (h : ns.length ≤ 63) (h2 : s.length ≤ 63) : ∀ p ∈ bdPairs ns s m, p.1.length ≤ 200 ∧ p.2.length ≤ 200 := fun p hp => by
  have l1 := lows_len ns m
  have l2 := highs_len ns m
  have c1 := bent_len s (lowsOf ns m)
  have c2 := bent_len s (highsOf ns m)
  unfold bdPairs at hp
  simp only [List.mem_cons, List.not_mem_nil, or_false] at hp
  rcases hp with rfl | rfl | rfl | rfl <;> (constructor <;> dsimp only <;> omega)
theorem bar_due (ns : List Int) (a b m : Int) : barOk ns a b m = ((decide (0 ≤ a) && (decide (a < b) && decide (b < (ns.length : Int)))) && decide (2 * m < ns.getD a.toNat 0 - ns.getD b.toNat 0)) := by
  unfold barOk
  by_cases h : 0 ≤ a ∧ a < b ∧ b < (ns.length : Int)
  · rw [if_pos h, decide_eq_true h.1, decide_eq_true h.2.1, decide_eq_true h.2.2]
    rfl
  · rw [if_neg h]
    by_cases h1 : 0 ≤ a
    · by_cases h2 : a < b
      · rw [decide_eq_false (fun z => h ⟨h1, h2, z⟩ : ¬ b < (ns.length : Int))]
        simp
      · rw [decide_eq_false h2]
        simp
    · rw [decide_eq_false h1]
      simp
theorem pos20 : (0 : Int) < 20 := by decide
theorem div7' : CDivW x 7 := ⟨by decide, by decide⟩
local macro_rules | `(tactic| walk_at "d1") => `(tactic| first | with_reducible apply c_Band_shows | with_reducible exact c_Barred_shows)
def R__law_bands_right (ds : List D) (d : D) : Prop := ∃ ns s : List Int, ds = [.lst (dI ns), .lst (dI s)] ∧ ns.length ≤ 63 ∧ s.length ≤ 63 ∧ d = .bl true
theorem ok__law_bands_right (T : Tx K mg base) : FnOk P w K mg base CX0 5 T.a__law_bands_right T.d__law_bands_right ["_law_numbers_here", "_law_script"] (spR K 2 R__law_bands_right) := by
  refine pure_ok T.F__law_bands_right sc__law_bands_right rfl (fun cdv A outer s H E hr => ?_)
  have nd := sc__law_bands_right.nd
  have hu := hr.units
  refine ⟨_, (pss_cons (ps_set (i := 2) nd rfl (by first | exact Or.inl rfl | exact Or.inr rfl) (pe_op op_mod (pe_callB (sumK K rfl) (by rfl) T.m_sum bt_sum (pa_cons (pv 1) pa_nil)) pe_int))
      (pss_cons (ps_par (i := 3) (j := 4) rfl nd rfl rfl (by decide) rfl rfl (pa_cons (pe_lc (own := [("_law_number", 15)]) (g := (gName 15)) (tt := tYes) rfl nd (pi_listK K (pe_call (ok_upper T) (hr.mono (by decide)) (by rfl) T.g_upper T.F_upper.kp T.b_upper .nil pass0 (pa_cons (pv 0) pa_nil))) (blkOk_by (own := [("_law_number", 15)]) (N := N__law_bands_right) (sc := defScope s__law_bands_right) (by decide +kernel)) (fun _ _ _ _ _ => (pg_name (i := 15) nd rfl (by first | exact Or.inl rfl | exact Or.inr rfl))) (fun _ _ _ _ _ => pts_nil) (fun _ _ _ _ _ => (pe_op op_sub (pv 15) (pv 2)))) (pa_cons (pe_lc (own := [("_law_number", 15)]) (g := (gName 15)) (tt := tYes) rfl nd (pi_listK K (pe_call (ok_lower T) (hr.mono (by decide)) (by rfl) T.g_lower T.F_lower.kp T.b_lower .nil pass0 (pa_cons (pv 0) pa_nil))) (blkOk_by (own := [("_law_number", 15)]) (N := N__law_bands_right) (sc := defScope s__law_bands_right) (by decide +kernel)) (fun _ _ _ _ _ => (pg_name (i := 15) nd rfl (by first | exact Or.inl rfl | exact Or.inr rfl))) (fun _ _ _ _ _ => pts_nil) (fun _ _ _ _ _ => (pe_op (addK K) (pv 15) (pv 2)))) pa_nil)) (by rfl))
      (pss_cons (ps_set (i := 5) nd rfl (by first | exact Or.inl rfl | exact Or.inr rfl) (pe_callB (allK K rfl) (by rfl) T.m_all bt_all (pa_cons (pe_lc (own := [("_law_low_here", 16), ("_law_high", 17)]) (g := (gTup K 2 (gCons (gName 16) (gCons (gName 17) gNil)))) (tt := tYes) rfl nd (pi_zipK K (by rfl) T.m_zip (pa_cons (pv 3) (pa_cons (pv 4) pa_nil))) (blkOk_by (own := [("_law_low_here", 16), ("_law_high", 17)]) (N := N__law_bands_right) (sc := defScope s__law_bands_right) (by decide +kernel)) (fun _ _ _ _ _ => (pg_tupK (n := 2) K rfl (pgs_cons (pg_name (i := 16) nd rfl (by first | exact Or.inl rfl | exact Or.inr rfl)) (pgs_cons (pg_name (i := 17) nd rfl (by first | exact Or.inl rfl | exact Or.inr rfl)) pgs_nil)))) (fun _ _ _ _ _ => pts_nil) (fun _ _ _ _ _ => (pe_cmpR op_le (pv 16) (pv 17) (nomark _)))) pa_nil)))
      (pss_cons (ps_set (i := 6) nd rfl (by first | exact Or.inl rfl | exact Or.inr rfl) (pe_lst (pa_cons (pe_call (ok__law_bent T) (hr.mono (by decide)) (by rfl) T.g__law_bent T.F__law_bent.kp T.b__law_bent .nil pass0 (pa_cons (pv 3) (pa_cons (pv 1) pa_nil))) (pa_cons (pe_call (ok__law_bent T) (hr.mono (by decide)) (by rfl) T.g__law_bent T.F__law_bent.kp T.b__law_bent .nil pass0 (pa_cons (pv 4) (pa_cons (pv 1) pa_nil))) pa_nil))))
      (pss_cons (ps_for PassesOwn.never rfl (pi_listK K (pe_lst (pa_cons (pe_tup (pa_cons (pv 3) (pa_cons (pv 4) pa_nil))) (pa_cons (pe_tup (pa_cons (pv 4) (pa_cons (pv 3) pa_nil))) (pa_cons (pe_tup (pa_cons (pe_ix (ixK K) (pv 6) pe_int (fun _ _ => rfl)) (pa_cons (pv 4) pa_nil))) (pa_cons (pe_tup (pa_cons (pv 3) (pa_cons (pe_ix (ixK K) (pv 6) pe_int (fun _ _ => rfl)) pa_nil))) pa_nil)))))) (pg_tupK (n := 2) K rfl (pgs_cons (pg_name (i := 7) nd rfl (by first | exact Or.inl rfl | exact Or.inr rfl)) (pgs_cons (pg_name (i := 8) nd rfl (by first | exact Or.inl rfl | exact Or.inr rfl)) pgs_nil))) (pss_cons (ps_set (i := 9) nd rfl (by first | exact Or.inl rfl | exact Or.inr rfl) (pe_lst (pa_cons (pe_callTy (listK K) (by rfl) T.m_list bt_list (pa_cons (pv 7) pa_nil)) (pa_cons (pe_callTy (listK K) (by rfl) T.m_list bt_list (pa_cons (pv 8) pa_nil)) pa_nil))))
      (pss_cons (ps_set (i := 10) nd rfl (by first | exact Or.inl rfl | exact Or.inr rfl) (pe_make T.k_Band (ok_Band___init__ T) (hr.mono (by decide)) (by rfl) T.g_Band T.b_Band___init__ .nil pass0 (pa_cons (pe_ix (ixK K) (pv 9) pe_int (fun _ _ => rfl)) (pa_cons (pe_ix (ixK K) (pv 9) pe_int (fun _ _ => rfl)) pa_nil))))
      (pss_cons (ps_expr (pe_bm PySem.F.plainAttrs_list PySem.F.slot_list_append PySem.F.type_list_append mt_append (pe_ix (ixK K) (pv 9) pe_int (fun _ _ => rfl)) (pa_cons pe_int pa_nil)))
      (pss_cons (ps_expr (pe_bm PySem.F.plainAttrs_list PySem.F.slot_list_append PySem.F.type_list_append mt_append (pe_ix (ixK K) (pv 9) pe_int (fun _ _ => rfl)) (pa_cons pe_int pa_nil)))
      (pss_cons (ps_if (PW.pt (pw_or (pt_cmpR (neK K hu) (fldK K (pv 10) rfl) (pv 7) (nomark _)) (pw_or1 (pt_cmpR (neK K hu) (fldK K (pv 10) rfl) (pv 8) (nomark _))))) (pss_one (ps_ret pe_bl)) pss_nil)
      (pss_one (ps_if (pt_not (pt_val (pe_call (ok__law_says T) (hr.mono (by decide)) (by rfl) T.g__law_says T.F__law_says.kp T.b__law_says .nil pass0 (pa_cons (pe_meth (pv 10) T.c_Band T.m_Band_shows (ok_Band_shows T) (hr.mono (by decide)) T.b_Band_shows .nil pass0 (pa_cons (pv 0) (pa_cons (pv 2) pa_nil))) (pa_cons (pe_and (pv 5) (pe_and (pe_cmpR (eqK K hu) (pv 7) (pv 3) (nomark _)) (pe_one (pe_cmpR (eqK K hu) (pv 8) (pv 4) (nomark _))))) pa_nil))))) (pss_one (ps_ret pe_bl)) pss_nil))))))))
      (pss_cons (ps_for PassesOwn.never rfl (pi_listK K (pe_op (addK K) (pv 1) (pe_lst (pa_cons pe_int pa_nil)))) (pg_name (i := 11) nd rfl (by first | exact Or.inl rfl | exact Or.inr rfl)) (pss_cons (ps_par (i := 12) (j := 13) rfl nd rfl rfl (by decide) rfl rfl (pa_cons (pe_op op_sub (pe_op op_mod (pv 11) (pe_op (addK K) (pe_callB (lenK K) (by rfl) T.m_len bt_len (pa_cons (pv 1) pa_nil)) pe_int)) pe_int) (pa_cons (pe_op op_sub (pe_op op_mod (pe_op op_fdivW (pv 11) pe_int) (pe_op (addK K) (pe_callB (lenK K) (by rfl) T.m_len bt_len (pa_cons (pv 1) pa_nil)) pe_int)) pe_int) pa_nil)) (by rfl))
      (pss_cons (ps_set (i := 14) nd rfl (by first | exact Or.inl rfl | exact Or.inr rfl) (pe_and (pe_chain3 op_le op_lt op_lt pe_int (pv 12) (pv 13) (pe_callB (lenK K) (by rfl) T.m_len bt_len (pa_cons (pv 0) pa_nil))) (pe_one (pe_cmpR op_gt (pe_op op_sub (pe_ix (ixK K) (pv 0) (pv 12) (fun _ _ => rfl)) (pe_ix (ixK K) (pv 0) (pv 13) (fun _ _ => rfl))) (pe_op (mulK K) pe_int (pv 2)) (nomark _)))))
      (pss_one (ps_if (pt_not (pt_val (pe_call (ok__law_says T) (hr.mono (by decide)) (by rfl) T.g__law_says T.F__law_says.kp T.b__law_says .nil pass0 (pa_cons (pe_meth (pe_make T.k_Barred (ok_Barred___init__ T) (hr.mono (by decide)) (by rfl) T.g_Barred T.b_Barred___init__ .nil pass0 (pa_cons (pv 12) (pa_cons (pv 13) pa_nil))) T.c_Barred T.m_Barred_shows (ok_Barred_shows T) (hr.mono (by decide)) T.b_Barred_shows .nil pass0 (pa_cons (pv 0) (pa_cons (pv 2) pa_nil))) (pa_cons (pv 14) pa_nil))))) (pss_one (ps_ret pe_bl)) pss_nil)))))
      (pss_one (ps_ret pe_bl)))))))), fun ds d h => ?_⟩
  obtain ⟨ns, s, rfl, hn, hs, rfl⟩ := h
  change DS _ _ [B.im _, B.im _, B.no, B.no, B.no, B.no, B.no, B.no, B.no, B.no, B.no, B.no, B.no, B.no, B.no, B.no, B.no, B.no] _
  have n1000 : ns.length ≤ 1000 := by omega
  apply ds_seq
  apply ds_asg (d := .int (s.sum % 20))
  · exact deo (de_op (de_cb (da_cons (de_var rfl) da_nil) rc_sum) de_int (r2_mod pos20))
  have hm0 := Int.emod_nonneg s.sum (show (20 : Int) ≠ 0 by decide)
  generalize s.sum % 20 = m at *
  have l1 := lows_len ns m
  have l2 := highs_len ns m
  apply ds_seq
  apply ds_par (a := .lst (dI (lowsOf ns m))) (d := .lst (dI (highsOf ns m)))
  · apply dao
    refine da_cons ?_ (da_cons ?_ da_nil)
    · apply de_lcI (fun x => x - m) (xs := hsf ns) (enc := D.int)
      · exact di_list (de_callO (da_cons (de_var rfl) da_nil) (c_upper n1000) rfl rfl)
      · rw [hsf_len]
        omega
      · intro x hx
        refine ⟨_, dg_name _ (by decide), ?_⟩
        walk_at "de"
    · apply de_lcI (fun x => x + m) (xs := lof ns) (enc := D.int)
      · exact di_list (de_callO (da_cons (de_var rfl) da_nil) (c_lower n1000) rfl rfl)
      · rw [lof_len]
        omega
      · intro x hx
        refine ⟨_, dg_name _ (by decide), ?_⟩
        walk_at "de"
  apply ds_seq
  apply ds_asg (d := .bl (goodB ns m))
  · refine deo (de_cb (da_cons ?_ da_nil) rc_all)
    apply de_lcB (fun i : Nat => decide ((lowsOf ns m).getD i 0 ≤ (highsOf ns m).getD i 0)) (xs := List.range ns.length) (enc := fun i => D.tup [.int ((lowsOf ns m).getD i 0), .int ((highsOf ns m).getD i 0)])
    · rw [← l1, ← zip_range (by omega)]
      exact di_zip (da_cons (de_var rfl) (da_cons (de_var rfl) da_nil))
    · rw [List.length_range]
      omega
    · intro x hx
      refine ⟨_, dg_tup (dg_cons (dg_name _ (by decide)) (dg_cons (dg_name _ (by decide)) dg_nil)) rfl, ?_⟩
      walk_at "de"
  apply ds_seq
  apply ds_asg (d := .lst [.lst (dI (bent (lowsOf ns m) s)), .lst (dI (bent (highsOf ns m) s))])
  · exact deo (de_lst (da_cons (de_call (da_cons (de_var rfl) (da_cons (de_var rfl) da_nil)) (c__law_bent (by omega) hs) rfl) (da_cons (de_call (da_cons (de_var rfl) (da_cons (de_var rfl) da_nil)) (c__law_bent (by omega) hs) rfl) da_nil)) (Nat.le_of_ble_eq_true rfl))
  refine ds_cutP (fun Γ' => ∃ b6 b7 b8 b9 b10 b11 b12 b13 b14 b15 b16 b17, Γ' = [.im (.lst (dI ns)), .im (.lst (dI s)), .im (.int m), b6, b7, b8, b9, b10, b11, b12, b13, b14, b15, b16, b17, .no, .no, .no]) ?_ ?_
  · apply ds_for (I := fun i Γ' => ∃ b7 b8 b9 b10, Γ' = [.im (.lst (dI ns)), .im (.lst (dI s)), .im (.int m), .im (.lst (dI (lowsOf ns m))), .im (.lst (dI (highsOf ns m))), .im (.bl (goodB ns m)), .im (.lst [.lst (dI (bent (lowsOf ns m) s)), .lst (dI (bent (highsOf ns m) s))]), b7, b8, b9, b10, .no, .no, .no, .no, .no, .no, .no])
    · apply di_list (ds := (bdPairs ns s m).map pairL)
      show DE _ _ _ (.lst [.tup [.lst (dI (lowsOf ns m)), .lst (dI (highsOf ns m))], .tup [.lst (dI (highsOf ns m)), .lst (dI (lowsOf ns m))], .tup [.lst (dI (bent (lowsOf ns m) s)), .lst (dI (highsOf ns m))], .tup [.lst (dI (lowsOf ns m)), .lst (dI (bent (highsOf ns m) s))]])
      have t2 : ∀ {ta tb : TE} {Γ : List B} {a b : D}, DE K ta Γ a → DE K tb Γ b → DE K (tTup (tCons ta (tCons tb tNil))) Γ (.tup [a, b]) := fun h k => de_tup (da_cons h (da_cons k da_nil)) (Nat.le_of_ble_eq_true rfl)
      exact de_lst (da_cons (t2 (de_var rfl) (de_var rfl)) (da_cons (t2 (de_var rfl) (de_var rfl)) (da_cons (t2 (de_op (de_var rfl) de_int (r2_ixL rfl)) (de_var rfl)) (da_cons (t2 (de_var rfl) (de_op (de_var rfl) de_int (r2_ixL rfl))) da_nil)))) (Nat.le_of_ble_eq_true rfl)
    · exact ⟨_, _, _, _, rfl⟩
    · rintro i d Γ' hd ⟨b7, b8, b9, b10, rfl⟩
      obtain ⟨hi, rfl⟩ := map_get ([], []) hd
      obtain ⟨hu, hv⟩ := bdPairs_len (m := m) hn hs _ (getD_mem (z := ([], [])) hi)
      generalize (bdPairs ns s m).getD i ([], []) = p at *
      obtain ⟨u, v⟩ := p
      have hu : u.length ≤ 200 := hu
      have hv : v.length ≤ 200 := hv
      refine ⟨_, show DG _ _ _ (.tup [.lst (dI u), .lst (dI v)]) _ _ from dg_tup (dg_cons (dg_name _ trivial) (dg_cons (dg_name _ trivial) dg_nil)) rfl, ?_⟩
      apply ds_seq
      refine ds_asgX 9 (dxo (dx_ol (dax_cons (dx_list (da_cons (de_var rfl) da_nil)) (dax_cons (dx_list (da_cons (de_var rfl) da_nil)) dax_nil)) (Nat.le_of_ble_eq_true rfl))) ?_
      apply ds_seq
      refine ds_asgX 10 (dxo_op2 (fun xs ys => bandC xs ys) 9 rfl (fun us vs _ _ => dx_make (da_cons (de_op (de_var rfl) de_int (r2_ixL rfl)) (da_cons (de_op (de_var rfl) de_int (r2_ixL rfl)) da_nil)) c_Band___init__ rfl) (fun G us vs r1 r2 => .cons (.ow r1) (.cons (.ow r2) .nil))) ?_
      apply ds_seq
      refine ds_oapp 9 0 rfl de_int rfl rfl (deo de_int) (by rw [List.length_map]; omega) ?_
      apply ds_seq
      refine ds_oapp 9 1 rfl de_int rfl rfl (deo de_int) (by rw [List.length_map]; omega) ?_
      apply ds_seq
      refine ds_ifF (dto_fz ?_) (ds_next ?_)
      · walk_at "fzE"
        refine' dt_is _ _
        rotate_left
        · walk_at "de"
        · simp
      refine ds_ifF (dto_fz ?_) (ds_next ⟨_, _, _, _, rfl⟩)
      walk_at "fzE"
      refine dt_not (x := true) (dt_test ?_)
      refine' de_is _ _
      rotate_left
      · walk_at "de"
        all_goals first | omega | exact n1000
      · rw [band_due]
        simp
    · rintro Γ' ⟨b7, b8, b9, b10, rfl⟩
      exact ⟨_, _, _, _, _, _, _, _, _, _, _, _, rfl⟩
  rintro X ⟨b6, b7, b8, b9, b10, b11, b12, b13, b14, b15, b16, b17, rfl⟩
  apply ds_seq
  apply ds_for (I := fun i Γ' => ∃ c11 c12 c13 c14, Γ' = [.im (.lst (dI ns)), .im (.lst (dI s)), .im (.int m), b6, b7, b8, b9, b10, b11, b12, b13, c11, c12, c13, c14, .no, .no, .no])
  · apply di_list (ds := dI (s ++ [0]))
    unfold dI
    rw [List.map_append]
    exact de_op (de_var rfl) (de_lst (da_cons de_int da_nil) (Nat.le_of_ble_eq_true rfl)) (r2_cat (by rw [List.length_map, List.length_singleton]; omega))
  · exact ⟨_, _, _, _, rfl⟩
  · rintro i d Γ' hd ⟨c11, c12, c13, c14, rfl⟩
    obtain ⟨hi, rfl⟩ := map_get 0 hd
    generalize (s ++ [0]).getD i 0 = c at *
    have hp : (0 : Int) < ((dI s).length : Int) + 2 := by omega
    refine ⟨_, dg_name _ trivial, ?_⟩
    change DS _ _ [.im (.lst (dI ns)), .im (.lst (dI s)), .im (.int m), b6, b7, b8, b9, b10, b11, b12, b13, .im (.int c), c12, c13, c14, .no, .no, .no] _
    apply ds_seq
    apply ds_par (a := .int (c % (((dI s).length : Int) + 2) - 1)) (d := .int (c / 7 % (((dI s).length : Int) + 2) - 1))
    · exact dao (da_cons (de_op (de_op (de_var rfl) (de_op (de_cb (da_cons (de_var rfl) da_nil) rc_lenL) de_int r2_add) (r2_mod hp)) de_int r2_sub) (da_cons (de_op (de_op (de_op (de_var rfl) de_int (r2_fdiv div7')) (de_op (de_cb (da_cons (de_var rfl) da_nil) rc_lenL) de_int r2_add) (r2_mod hp)) de_int r2_sub) da_nil))
    generalize c % (((dI s).length : Int) + 2) - 1 = a at *
    generalize c / 7 % (((dI s).length : Int) + 2) - 1 = b at *
    change DS _ _ [.im (.lst (dI ns)), .im (.lst (dI s)), .im (.int m), b6, b7, b8, b9, b10, b11, b12, b13, .im (.int c), .im (.int a), .im (.int b), c14, .no, .no, .no] _
    apply ds_seq
    apply ds_asg (d := .bl (barOk ns a b m))
    · apply deo
      rw [bar_due]
      refine de_andV (de_chain3 de_int (de_var rfl) r2_le (fun _ => de_var rfl) (fun _ => r2_lt) (fun _ _ => de_cb (da_cons (de_var rfl) da_nil) ?_) (fun _ _ => r2_lt)) fun h => ?_
      · rw [show (ns.length : Int) = ((dI ns).length : Int) by rw [List.length_map]]
        exact rc_lenL
      · simp only [Bool.and_eq_true, decide_eq_true_eq] at h
        exact de_op (de_op (de_op (de_var rfl) (de_var rfl) (r2_ixI (by omega) (by omega))) (de_op (de_var rfl) (de_var rfl) (r2_ixI (by omega) (by omega))) r2_sub) (de_op de_int (de_var rfl) (r2_mul mul2l)) r2_gt
    refine ds_ifF (dto ?_) (ds_next ⟨_, _, _, _, rfl⟩)
    refine dt_not (x := true) (dt_test ?_)
    refine de_is (de_call (da_cons (de_meth (de_new (dx_make (da_cons (de_var rfl) (da_cons (de_var rfl) da_nil)) c_Barred___init__ rfl) rfl) (by walk_at "fzE"; walk_at "lk") (da_cons (de_var rfl) (da_cons (de_var rfl) da_nil)) c_Barred_shows rfl) (da_cons (de_var rfl) da_nil)) c__law_says rfl) ?_
    simp
  · rintro Γ' ⟨c11, c12, c13, c14, rfl⟩
    exact ds_ret (deo de_bl) rfl
theorem c__law_bands_right {ns s : List Int} (h : ns.length ≤ 63) (h2 : s.length ≤ 63) : R__law_bands_right [.lst (dI ns), .lst (dI s)] (.bl true) := ⟨_, _, rfl, h, h2, rfl⟩
end
end U

namespace U
open PySem PySem.Spec PyProof.Rows L2 DL
section
variable {P : Program} {w : World} {K : PySem.W.Frag} {mg : Str → Option Value} {base : Heap}
local macro_rules | `(tactic| walk_at "lk") => `(tactic| first | with_reducible exact look_hit | ((with_reducible refine look_miss (by decide +kernel) ?_); walk_at "lk") | with_reducible exact look_nil)
local macro_rules | `(tactic| walk_at "fz") => `(tactic| simp only [fz, fzB, chF, Ch.d, List.map, List.set])
local macro_rules | `(tactic| walk_at "ob") => `(tactic| first
  | ((with_reducible show look _ _ = _); walk_at "lk")
  | with_reducible apply de_callO | ((with_reducible show B.d _ = _); rfl) | ((with_reducible apply de_either1); (with_reducible apply de_meth); exact de_var rfl) | ((with_reducible apply de_either2); (with_reducible apply de_meth); exact de_var rfl)
  | with_reducible exact de_cls | with_reducible apply de_fld | with_reducible apply rc_isC | with_reducible apply de_meth
  | walk_at "cl")
local macro_rules | `(tactic| walk_at "r2") => `(tactic| (fail_if_success (with_reducible show R2D _ _ D.non _ _)); (fail_if_success (with_reducible show R2D _ _ _ D.non _)); first
  | exact r2_add | exact r2_sub | exact r2_lt | exact r2_le | exact r2_gt | exact r2_ge
  | with_reducible exact r2_p30 | with_reducible exact r2_p9
  | with_reducible apply r2_mod | with_reducible apply r2_fdiv | with_reducible apply r2_mul | with_reducible apply r2_pow | with_reducible apply r2_cat | with_reducible apply r2_rep1
  | exact r2_ixT rfl | exact r2_ixL rfl | with_reducible apply r2_ixN | with_reducible apply r2_ixI
  | exact r2_eqI | exact r2_neI | exact r2_eqB | exact r2_neB | exact r2_eqL | exact r2_neL | exact r2_isB | exact r2_notB)
local macro_rules | `(tactic| walk_at "rc") => `(tactic| (fail_if_success (with_reducible show RCD _ _ [D.non] _)); (fail_if_success (with_reducible show RCD _ _ [D.non, _] _)); (fail_if_success (with_reducible show RCD _ _ [_, D.non] _)); first
  | with_reducible exact rc_srt
  | exact rc_abs | exact rc_max2 | exact rc_min2 | exact rc_sum | exact rc_all | exact rc_any | exact rc_lenL | exact rc_lenT | exact rc_listL | exact rc_listT
  | with_reducible apply rc_int | with_reducible apply rc_bool | with_reducible apply rc_list | with_reducible apply rc_tuple)
local macro_rules | `(tactic| walk_at "d1") => `(tactic| first
  | with_reducible exact de_int | with_reducible exact de_bl | with_reducible exact de_non | exact de_var rfl
  | with_reducible exact da_nil | with_reducible apply da_cons
  | with_reducible apply de_op | with_reducible apply de_un | with_reducible apply de_cb | with_reducible apply de_call
  | with_reducible apply de_tup | with_reducible apply de_lst
  | with_reducible apply de_andV | with_reducible apply de_orV | with_reducible apply de_notV | ((with_reducible show _ = true → _); intro _) | ((with_reducible show _ = false → _); intro _)
  | with_reducible apply dt_and | with_reducible apply dt_or | with_reducible apply dt_not | with_reducible apply dt_test | with_reducible apply dt_B
  | with_reducible apply de_slice | with_reducible exact do_none | with_reducible apply do_some | with_reducible apply de_rev
  | with_reducible apply de_maxD | with_reducible apply de_chain3 | with_reducible apply de_chain
  | walk_at "r2" | walk_at "rc" | walk_at "ob"
  | ((with_reducible show R1D _ _ (D.int _) _); exact r1_neg)
  | with_reducible exact de_ty
  | with_reducible exact ne_int | with_reducible exact ne_lst | with_reducible exact ne_tup | with_reducible exact ne_bl
  | ((with_reducible show List.length _ = _); rfl) | ((with_reducible show List.length _ + 1 = _); rfl)
  | (with_reducible show List.length _ ≤ 1000); exact Nat.le_of_ble_eq_true rfl)
local macro_rules | `(tactic| walk_at "dg") => `(tactic| repeat' (first | exact dg_name _ trivial | exact dg_name _ (by decide) | with_reducible exact dg_nil | with_reducible apply dg_cons | with_reducible apply dg_tup | ((with_reducible show List.length _ = _); rfl)))
local macro_rules | `(tactic| walk_at "de") => `(tactic| repeat' walk_at "d1")
local macro_rules | `(tactic| walk_at "ret") => `(tactic| (apply ds_ret; apply deo; walk_at "de"))
local macro_rules | `(tactic| walk_at "asg") => `(tactic| (apply ds_seq; apply ds_asg; apply deo; walk_at "de"))
local macro_rules | `(tactic| walk_at "drop") => `(tactic| (apply ds_seq; apply ds_drop; apply deo; walk_at "de"))
local macro_rules | `(tactic| walk_at "par") => `(tactic| (apply ds_seq; apply ds_par; apply dao; walk_at "de"))
local macro_rules | `(tactic| walk_at "parG") => `(tactic| (apply ds_seq; apply ds_asgG; apply deo; walk_at "de"; walk_at "dg"))
local macro_rules | `(tactic| walk_at "lc") => `(tactic| first | with_reducible exact lookC_hit | with_reducible exact lookC_nil | ((with_reducible refine lookC_miss (by decide +kernel) ?_); walk_at "lc"))
local macro_rules | `(tactic| walk_at "pc") => `(tactic| first | with_reducible exact putC_hit | with_reducible exact putC_nil | ((with_reducible apply putC_miss); (decide +kernel); (walk_at "pc")))
local macro_rules | `(tactic| walk_at "cl") => `(tactic| first | with_reducible exact Tx.c_Band _ | with_reducible exact Tx.i_Band _ | with_reducible exact Tx.n_Band_lows _ | with_reducible exact Tx.n_Band_highs _ | with_reducible exact Tx.c_Barred _ | with_reducible exact Tx.i_Barred _ | with_reducible exact Tx.n_Barred_first _ | with_reducible exact Tx.n_Barred_second _ | with_reducible exact Tx.c_Evened _ | with_reducible exact Tx.i_Evened _ | with_reducible exact Tx.n_Evened_row _ | with_reducible exact Tx.n_Evened_first _ | with_reducible exact Tx.n_Evened_second _ | with_reducible exact Tx.c_Squared _ | with_reducible exact Tx.i_Squared _ | with_reducible exact Tx.n_Squared_row _ | with_reducible exact Tx.c_Summed _ | with_reducible exact Tx.i_Summed _ | with_reducible exact Tx.n_Summed_row _ | with_reducible exact Tx.n_Summed_pulls _ | with_reducible exact Tx.is_Band_Barred _ | with_reducible exact Tx.is_Band_Evened _ | with_reducible exact Tx.is_Band_Squared _ | with_reducible exact Tx.is_Band_Summed _ | with_reducible exact Tx.is_Barred_Band _ | with_reducible exact Tx.is_Barred_Evened _ | with_reducible exact Tx.is_Barred_Squared _ | with_reducible exact Tx.is_Barred_Summed _ | with_reducible exact Tx.is_Evened_Band _ | with_reducible exact Tx.is_Evened_Barred _ | with_reducible exact Tx.is_Evened_Squared _ | with_reducible exact Tx.is_Evened_Summed _ | with_reducible exact Tx.is_Squared_Band _ | with_reducible exact Tx.is_Squared_Barred _ | with_reducible exact Tx.is_Squared_Evened _ | with_reducible exact Tx.is_Squared_Summed _ | with_reducible exact Tx.is_Summed_Band _ | with_reducible exact Tx.is_Summed_Barred _ | with_reducible exact Tx.is_Summed_Evened _ | with_reducible exact Tx.is_Summed_Squared _| with_reducible exact (Tx.i_Band _).me | with_reducible exact (Tx.i_Barred _).me | with_reducible exact (Tx.i_Evened _).me | with_reducible exact (Tx.i_Squared _).me | with_reducible exact (Tx.i_Summed _).me)
local macro_rules | `(tactic| walk_at "d1") => `(tactic| first | exact c_common | with_reducible apply c_is_number)
local macro_rules | `(tactic| walk_at "d1") => `(tactic| with_reducible apply c_lowest)
local macro_rules | `(tactic| walk_at "d1") => `(tactic| with_reducible apply c_are_numbers)
local macro_rules | `(tactic| walk_at "d1") => `(tactic| with_reducible apply c_check_numbers)
local macro_rules | `(tactic| walk_at "d1") => `(tactic| with_reducible apply c_check_row)
local macro_rules | `(tactic| walk_at "d1") => `(tactic| with_reducible apply c_check_weights)
local macro_rules | `(tactic| walk_at "d1") => `(tactic| with_reducible apply c_greatest_of)
local macro_rules | `(tactic| walk_at "d1") => `(tactic| with_reducible apply c_sum_of)
local macro_rules | `(tactic| walk_at "d1") => `(tactic| first | with_reducible apply c_greatest | with_reducible apply c_summed_up | with_reducible exact c_is_fraction)
local macro_rules | `(tactic| walk_at "d1") => `(tactic| first | with_reducible exact c__law_whole2 | with_reducible apply c__law_whole)
local macro_rules | `(tactic| walk_at "d1") => `(tactic| with_reducible first | exact div21 | exact div3 | exact div2 | exact div5 | exact div7 | exact div30 | exact div230 | exact pos21 | exact pos2 | exact pos3 | exact pos5 | exact pos7 | exact pos9 | exact pos12 | exact posE30 | exact posE9 | exact mul2 | exact mul2l | exact mul3l)
local macro_rules | `(tactic| walk_at "d1") => `(tactic| first | with_reducible apply c__law_numbers | with_reducible apply c__law_weights)
local macro_rules | `(tactic| walk_at "d1") => `(tactic| with_reducible apply c_rises)
local macro_rules | `(tactic| walk_at "d1") => `(tactic| with_reducible apply c_highest_so_far)
local macro_rules | `(tactic| walk_at "d1") => `(tactic| with_reducible apply c_worst_places)
local macro_rules | `(tactic| walk_at "d1") => `(tactic| with_reducible apply c_Evened_shows)
local macro_rules | `(tactic| walk_at "d1") => `(tactic| with_reducible apply c__law_rises)
local macro_rules | `(tactic| walk_at "d1") => `(tactic| first | with_reducible apply c__law_even | with_reducible apply c__law_whole | with_reducible exact c__law_whole2)
local macro_rules | `(tactic| walk_at "d1") => `(tactic| first | with_reducible apply c_Band_shows | with_reducible exact c_Barred_shows)
local macro_rules | `(tactic| walk_at "d1") => `(tactic| with_reducible apply c_from_nought)
local macro_rules | `(tactic| walk_at "d1") => `(tactic| with_reducible exact c__law_says)
local macro_rules | `(tactic| walk_at "d1") => `(tactic| with_reducible first | exact div13 | exact div169 | exact pos13)
local macro_rules | `(tactic| walk_at "fzE") => `(tactic| (simp only [evC, suC, sqC, barC, bandC, fz, fzB, chF, Ch.d, List.map, List.set]))
local macro_rules | `(tactic| walk_at "d1") => `(tactic| first | with_reducible apply c_Summed_shows | with_reducible apply c__law_summed)
local macro_rules | `(tactic| walk_at "d1") => `(tactic| first | with_reducible apply c_Squared_shows | with_reducible apply c__law_squared)
local macro_rules | `(tactic| walk_at "d1") => `(tactic| first | with_reducible apply c_Band_shows | with_reducible exact c_Barred_shows)
/-! ## some that are told outright -/
def few1 : List (List Int × List Int × Bool) := [([0, 0], [-1, 1], false), ([0, 0], [5, -5], false), ([0, 0], [1, -1], true), ([0, 1], [0, 0], false)]
def few1D (p : List Int × List Int × Bool) : D := .tup [.lst (dI p.1), .lst (dI p.2.1), .bl p.2.2]
def few2 : List (List Int × Bool) := [([1, 1], false), ([0, 2], true), ([-1, 3], false), ([2, 0], false)]
def few2D (p : List Int × Bool) : D := .tup [rowQ (asQ7 p.1), .bl p.2]
theorem two_i {i : Nat} (h : i < ([0, 0] : List Int).length) : i = 0 ∨ i = 1 := by
  have h2 : i < 2 := h
  omega
theorem few_a : sumOk [0, 0] [1, 1] [0, 0] [-1, 1] = false := decide_eq_false fun z => absurd (z.pos 0 (by decide)) (by decide)
theorem few_b : sumOk [0, 0] [1, 1] [0, 0] [5, -5] = false := decide_eq_false fun z => absurd (z.pl 0 (by decide)).2 (by decide)
theorem few_c : sumOk [0, 0] [1, 1] [0, 0] [1, -1] = true := decide_eq_true ⟨rfl, rfl, rfl, fun i hi => by
  rcases two_i hi with rfl | rfl <;> exact ⟨by decide, by decide⟩, fun i hi => by
  rcases two_i hi with rfl | rfl <;> decide, rfl, by decide⟩
theorem few_d : sumOk [0, 0] [1, 1] [0, 1] [0, 0] = false := decide_eq_false fun z => absurd z.told (by decide)
theorem few_e : sumOk [0] [1] [0] [1] = false := decide_eq_false fun z => absurd z.nil (by decide)
structure Few1 (p : List Int × List Int × Bool) : Prop where
  k : sumOk [0, 0] [1, 1] p.1 p.2.1 = p.2.2
  l : p.1.length ≤ 1000
  m : p.2.1.length ≤ 1000
  f : ∀ u ∈ p.2.1, Fit 200 u
theorem few_fit {u : Int} (h : u.natAbs ≤ 5) : Fit 200 u := Fit.mono (m := 3) ⟨by omega⟩ (by decide)
theorem few1_ok : ∀ p ∈ few1, Few1 p := fun p hp => by
  have f : ∀ us : List Int, (us.all fun u => decide (u.natAbs ≤ 5)) = true → ∀ u ∈ us, Fit 200 u := fun us h u hu => few_fit (of_decide_eq_true (List.all_eq_true.mp h u hu))
  unfold few1 at hp
  simp only [List.mem_cons, List.not_mem_nil, or_false] at hp
  rcases hp with rfl | rfl | rfl | rfl
  · exact ⟨few_a, by decide, by decide, f _ rfl⟩
  · exact ⟨few_b, by decide, by decide, f _ rfl⟩
  · exact ⟨few_c, by decide, by decide, f _ rfl⟩
  · exact ⟨few_d, by decide, by decide, f _ rfl⟩
theorem one_w {ws : List Int} (h : (ws.all fun w => decide (w = 1)) = true) : Wts ws := fun w hw => by
  have := of_decide_eq_true (List.all_eq_true.mp h w hw)
  subst this
  exact ⟨by decide, by decide⟩
theorem small_n {k : Nat} {ns : List Int} (h : (ns.all fun n => decide (n.natAbs ≤ 5)) = true) (hk : 3 ≤ k) : ∀ n ∈ ns, Fit k n := fun n hn => by
  have := of_decide_eq_true (List.all_eq_true.mp h n hn)
  exact Fit.mono (m := 3) ⟨by omega⟩ hk
theorem small_q {ns : List Int} (h : (ns.all fun n => decide (n.natAbs ≤ 5)) = true) : ∀ q ∈ asQ7 ns, QB q := fun q hq => by
  obtain ⟨n, hn, rfl⟩ := List.mem_map.mp hq
  exact ⟨(QFit.int (small_n (k := 3) h (by decide) n hn)).mono (by decide) (by decide)⟩
theorem few2_ok : ∀ p ∈ few2, sqOk [0, 2] (asQ7 p.1) [1, 1] = p.2 := by decide +kernel
theorem few2_q : ∀ p ∈ few2, (p.1.all fun n => decide (n.natAbs ≤ 5)) = true := by decide +kernel
theorem few_f : sqOk [2, 0] (asQ7 [2, 0]) [1, 1] = false := by decide +kernel
def R__law_few_right (ds : List D) (d : D) : Prop := ds = [] ∧ d = .bl true
theorem ok__law_few_right (T : Tx K mg base) : FnOk P w K mg base CX0 5 T.a__law_few_right T.d__law_few_right [] (spR K 0 R__law_few_right) := by
  refine pure_ok T.F__law_few_right sc__law_few_right rfl (fun cdv A outer s H E hr => ?_)
  have nd := sc__law_few_right.nd
  have hu := hr.units
  refine ⟨_, (pss_cons (ps_set (i := 0) nd rfl (by first | exact Or.inl rfl | exact Or.inr rfl) (pe_lst (pa_cons (pe_tup (pa_cons (pe_lst (pa_cons pe_int (pa_cons pe_int pa_nil))) (pa_cons (pe_lst (pa_cons (pe_un un_neg pe_int) (pa_cons pe_int pa_nil))) (pa_cons pe_bl pa_nil)))) (pa_cons (pe_tup (pa_cons (pe_lst (pa_cons pe_int (pa_cons pe_int pa_nil))) (pa_cons (pe_lst (pa_cons pe_int (pa_cons (pe_un un_neg pe_int) pa_nil))) (pa_cons pe_bl pa_nil)))) (pa_cons (pe_tup (pa_cons (pe_lst (pa_cons pe_int (pa_cons pe_int pa_nil))) (pa_cons (pe_lst (pa_cons pe_int (pa_cons (pe_un un_neg pe_int) pa_nil))) (pa_cons pe_bl pa_nil)))) (pa_cons (pe_tup (pa_cons (pe_lst (pa_cons pe_int (pa_cons pe_int pa_nil))) (pa_cons (pe_lst (pa_cons pe_int (pa_cons pe_int pa_nil))) (pa_cons pe_bl pa_nil)))) pa_nil))))))
      (pss_cons (ps_for PassesOwn.never rfl (pi_listK K (pv 0)) (pg_tupK (n := 3) K rfl (pgs_cons (pg_name (i := 1) nd rfl (by first | exact Or.inl rfl | exact Or.inr rfl)) (pgs_cons (pg_name (i := 2) nd rfl (by first | exact Or.inl rfl | exact Or.inr rfl)) (pgs_cons (pg_name (i := 3) nd rfl (by first | exact Or.inl rfl | exact Or.inr rfl)) pgs_nil)))) (pss_one (ps_if (pt_not (pt_val (pe_call (ok__law_says T) (hr.mono (by decide)) (by rfl) T.g__law_says T.F__law_says.kp T.b__law_says .nil pass0 (pa_cons (pe_meth (pe_make T.k_Summed (ok_Summed___init__ T) (hr.mono (by decide)) (by rfl) T.g_Summed T.b_Summed___init__ .nil pass0 (pa_cons (pv 1) (pa_cons (pv 2) pa_nil))) T.c_Summed T.m_Summed_shows (ok_Summed_shows T) (hr.mono (by decide)) T.b_Summed_shows .nil pass0 (pa_cons (pe_lst (pa_cons pe_int (pa_cons pe_int pa_nil))) (pa_cons (pe_lst (pa_cons pe_int (pa_cons pe_int pa_nil))) pa_nil))) (pa_cons (pv 3) pa_nil))))) (pss_one (ps_ret pe_bl)) pss_nil)))
      (pss_cons (ps_if (pt_not (pt_val (pe_call (ok__law_says T) (hr.mono (by decide)) (by rfl) T.g__law_says T.F__law_says.kp T.b__law_says .nil pass0 (pa_cons (pe_meth (pe_make T.k_Summed (ok_Summed___init__ T) (hr.mono (by decide)) (by rfl) T.g_Summed T.b_Summed___init__ .nil pass0 (pa_cons (pe_lst (pa_cons pe_int pa_nil)) (pa_cons (pe_lst (pa_cons pe_int pa_nil)) pa_nil))) T.c_Summed T.m_Summed_shows (ok_Summed_shows T) (hr.mono (by decide)) T.b_Summed_shows .nil pass0 (pa_cons (pe_lst (pa_cons pe_int pa_nil)) (pa_cons (pe_lst (pa_cons pe_int pa_nil)) pa_nil))) (pa_cons pe_bl pa_nil))))) (pss_one (ps_ret pe_bl)) pss_nil)
      (pss_cons (ps_set (i := 0) nd rfl (by first | exact Or.inl rfl | exact Or.inr rfl) (pe_lst (pa_cons (pe_tup (pa_cons (pe_lst (pa_cons (pe_tup (pa_cons pe_int (pa_cons pe_int pa_nil))) (pa_cons (pe_tup (pa_cons pe_int (pa_cons pe_int pa_nil))) pa_nil))) (pa_cons pe_bl pa_nil))) (pa_cons (pe_tup (pa_cons (pe_lst (pa_cons (pe_tup (pa_cons pe_int (pa_cons pe_int pa_nil))) (pa_cons (pe_tup (pa_cons pe_int (pa_cons pe_int pa_nil))) pa_nil))) (pa_cons pe_bl pa_nil))) (pa_cons (pe_tup (pa_cons (pe_lst (pa_cons (pe_tup (pa_cons (pe_un un_neg pe_int) (pa_cons pe_int pa_nil))) (pa_cons (pe_tup (pa_cons pe_int (pa_cons pe_int pa_nil))) pa_nil))) (pa_cons pe_bl pa_nil))) (pa_cons (pe_tup (pa_cons (pe_lst (pa_cons (pe_tup (pa_cons pe_int (pa_cons pe_int pa_nil))) (pa_cons (pe_tup (pa_cons pe_int (pa_cons pe_int pa_nil))) pa_nil))) (pa_cons pe_bl pa_nil))) pa_nil))))))
      (pss_cons (ps_for PassesOwn.never rfl (pi_listK K (pv 0)) (pg_tupK (n := 2) K rfl (pgs_cons (pg_name (i := 1) nd rfl (by first | exact Or.inl rfl | exact Or.inr rfl)) (pgs_cons (pg_name (i := 3) nd rfl (by first | exact Or.inl rfl | exact Or.inr rfl)) pgs_nil))) (pss_one (ps_if (pt_not (pt_val (pe_call (ok__law_says T) (hr.mono (by decide)) (by rfl) T.g__law_says T.F__law_says.kp T.b__law_says .nil pass0 (pa_cons (pe_meth (pe_make T.k_Squared (ok_Squared___init__ T) (hr.mono (by decide)) (by rfl) T.g_Squared T.b_Squared___init__ .nil pass0 (pa_cons (pv 1) pa_nil)) T.c_Squared T.m_Squared_shows (ok_Squared_shows T) (hr.mono (by decide)) T.b_Squared_shows .nil pass0 (pa_cons (pe_lst (pa_cons pe_int (pa_cons pe_int pa_nil))) (pa_cons (pe_lst (pa_cons pe_int (pa_cons pe_int pa_nil))) pa_nil))) (pa_cons (pv 3) pa_nil))))) (pss_one (ps_ret pe_bl)) pss_nil)))
      (pss_one (ps_ret (pe_call (ok__law_says T) (hr.mono (by decide)) (by rfl) T.g__law_says T.F__law_says.kp T.b__law_says .nil pass0 (pa_cons (pe_meth (pe_make T.k_Squared (ok_Squared___init__ T) (hr.mono (by decide)) (by rfl) T.g_Squared T.b_Squared___init__ .nil pass0 (pa_cons (pe_lst (pa_cons (pe_tup (pa_cons pe_int (pa_cons pe_int pa_nil))) (pa_cons (pe_tup (pa_cons pe_int (pa_cons pe_int pa_nil))) pa_nil))) pa_nil)) T.c_Squared T.m_Squared_shows (ok_Squared_shows T) (hr.mono (by decide)) T.b_Squared_shows .nil pass0 (pa_cons (pe_lst (pa_cons pe_int (pa_cons pe_int pa_nil))) (pa_cons (pe_lst (pa_cons pe_int (pa_cons pe_int pa_nil))) pa_nil))) (pa_cons pe_bl pa_nil)))))))))), fun ds d h => ?_⟩
  obtain ⟨rfl, rfl⟩ := h
  change DS _ _ [B.no, B.no, B.no, B.no] _
  have l2 : ∀ {Γ : List B} {a b : Int}, DE K (tLst (tCons (tC (.int a)) (tCons (tC (.int b)) tNil))) Γ (.lst (dI [a, b])) := de_lst (da_cons de_int (da_cons de_int da_nil)) (Nat.le_of_ble_eq_true rfl)
  have l1 : ∀ {Γ : List B} {a : Int}, DE K (tLst (tCons (tC (.int a)) tNil)) Γ (.lst (dI [a])) := de_lst (da_cons de_int da_nil) (Nat.le_of_ble_eq_true rfl)
  apply ds_seq
  apply ds_asg (d := .lst (few1.map few1D))
  · apply deo
    show DE _ _ _ (.lst [.tup [.lst [.int 0, .int 0], .lst [.int (-1), .int 1], .bl false], .tup [.lst [.int 0, .int 0], .lst [.int 5, .int (-5)], .bl false], .tup [.lst [.int 0, .int 0], .lst [.int 1, .int (-1)], .bl true], .tup [.lst [.int 0, .int 1], .lst [.int 0, .int 0], .bl false]])
    walk_at "de"
  apply ds_seq
  apply ds_for (I := fun i Γ' => ∃ b1 b2 b3, Γ' = [.im (.lst (few1.map few1D)), b1, b2, b3])
  · exact di_list (de_var rfl)
  · exact ⟨_, _, _, rfl⟩
  · rintro i d Γ' hd ⟨b1, b2, b3, rfl⟩
    obtain ⟨hi, rfl⟩ := map_get ([], [], false) hd
    have hk := few1_ok _ (getD_mem (z := ([], [], false)) hi)
    generalize few1.getD i ([], [], false) = p at *
    obtain ⟨u, v, k⟩ := p
    refine ⟨_, show DG _ _ _ (.tup [.lst (dI u), .lst (dI v), .bl k]) _ _ from dg_tup (dg_cons (dg_name _ trivial) (dg_cons (dg_name _ trivial) (dg_cons (dg_name _ trivial) dg_nil))) rfl, ?_⟩
    refine ds_ifF (dto (dt_not (x := true) (dt_test ?_))) (ds_next ⟨_, _, _, rfl⟩)
    refine de_is (de_call (da_cons (de_meth (R := R_Summed_shows T.C_Summed) (ds := [.lst (dI [0, 0]), .lst (dI [1, 1])]) (de_new (dx_make (da_cons (de_var rfl) (da_cons (de_var rfl) da_nil)) c_Summed___init__ rfl) rfl) (by walk_at "fzE"; walk_at "lk") (da_cons l2 (da_cons l2 da_nil)) (c_Summed_shows ⟨by decide, rfl, one_w rfl, small_n rfl (by decide), hk.f⟩ hk.l hk.m) rfl) (da_cons (de_var rfl) da_nil)) c__law_says rfl) ?_
    rw [show sumOk [0, 0] [1, 1] u v = k from hk.k]
    simp
  rintro Γ' ⟨b1, b2, b3, rfl⟩
  apply ds_seq
  refine ds_ifF (dto (dt_not (x := true) (dt_test ?_))) (ds_next ?_)
  · refine de_is (de_call (da_cons (de_meth (R := R_Summed_shows T.C_Summed) (ds := [.lst (dI [0]), .lst (dI [1])]) (de_new (dx_make (da_cons l1 (da_cons l1 da_nil)) c_Summed___init__ rfl) rfl) (by walk_at "fzE"; walk_at "lk") (da_cons l1 (da_cons l1 da_nil)) (c_Summed_shows (rs := [0]) (us := [1]) ⟨by decide, rfl, one_w rfl, small_n rfl (by decide), small_n rfl (by decide)⟩ (by decide) (by decide)) rfl) (da_cons de_bl da_nil)) c__law_says rfl) ?_
    rw [few_e]
    rfl
  apply ds_seq
  apply ds_asg (d := .lst (few2.map few2D))
  · apply deo
    show DE _ _ _ (.lst [.tup [.lst [.tup [.int 1, .int 1], .tup [.int 1, .int 1]], .bl false], .tup [.lst [.tup [.int 0, .int 1], .tup [.int 2, .int 1]], .bl true], .tup [.lst [.tup [.int (-1), .int 1], .tup [.int 3, .int 1]], .bl false], .tup [.lst [.tup [.int 2, .int 1], .tup [.int 0, .int 1]], .bl false]])
    walk_at "de"
  apply ds_seq
  apply ds_for (I := fun i Γ' => ∃ b1 b2 b3, Γ' = [.im (.lst (few2.map few2D)), b1, b2, b3])
  · exact di_list (de_var rfl)
  · exact ⟨_, _, _, rfl⟩
  · rintro i d Γ' hd ⟨b1, b2, b3, rfl⟩
    obtain ⟨hi, rfl⟩ := map_get ([], false) hd
    have hm := getD_mem (z := ([], false)) hi
    have hk := few2_ok _ hm
    have hq := few2_q _ hm
    generalize few2.getD i ([], false) = p at *
    obtain ⟨u, k⟩ := p
    refine ⟨_, show DG _ _ _ (.tup [.lst ((asQ7 u).map qd), .bl k]) _ _ from dg_tup (dg_cons (dg_name _ trivial) (dg_cons (dg_name _ trivial) dg_nil)) rfl, ?_⟩
    refine ds_ifF (dto (dt_not (x := true) (dt_test ?_))) (ds_next ⟨_, _, _, rfl⟩)
    refine de_is (de_call (da_cons (de_meth (R := R_Squared_shows T.C_Squared) (ds := [.lst (dI [0, 2]), .lst (dI [1, 1])]) (de_new (dx_make (da_cons (de_var rfl) da_nil) c_Squared___init__ rfl) rfl) (by walk_at "fzE"; walk_at "lk") (da_cons l2 (da_cons l2 da_nil)) (c_Squared_shows ⟨by decide, rfl, one_w rfl, small_n rfl (by decide), small_q hq⟩) rfl) (da_cons (de_var rfl) da_nil)) c__law_says rfl) ?_
    rw [show sqOk [0, 2] (asQ7 u) [1, 1] = k from hk]
    simp
  rintro Γ' ⟨b1, b2, b3, rfl⟩
  refine ds_ret (d := .bl true) (deo ?_) rfl
  refine de_is (de_call (da_cons (de_meth (R := R_Squared_shows T.C_Squared) (ds := [.lst (dI [2, 0]), .lst (dI [1, 1])]) (de_new (dx_make (da_cons (a := .lst ((asQ7 [2, 0]).map qd)) ?_ da_nil) c_Squared___init__ rfl) rfl) (by walk_at "fzE"; walk_at "lk") (da_cons l2 (da_cons l2 da_nil)) (c_Squared_shows (qs := asQ7 [2, 0]) ⟨by decide, rfl, one_w rfl, small_n rfl (by decide), small_q rfl⟩) rfl) (da_cons de_bl da_nil)) c__law_says rfl) ?_
  · show DE _ _ _ (.lst [.tup [.int 2, .int 1], .tup [.int 0, .int 1]])
    walk_at "de"
  · rw [few_f]
    rfl
theorem c__law_few_right : R__law_few_right [] (.bl true) := ⟨rfl, rfl⟩
/-! ## the law -/
def R_law (ds : List D) (d : D) : Prop := ∃ s : List Int, ds = [.lst (dI s)] ∧ s.length ≤ 63 ∧ (∀ z ∈ s, Fit 1048577 z) ∧ d = .bl true
theorem ok_law (T : Tx K mg base) : FnOk P w K mg base CX0 6 T.a_law T.d_law ["_law_script"] (spR K 1 R_law) := by
  refine pure_ok T.F_law sc_law rfl (fun cdv A outer s H E hr => ?_)
  have nd := sc_law.nd
  have hu := hr.units
  refine ⟨_, (pss_cons (ps_par (i := 1) (j := 2) rfl nd rfl rfl (by decide) rfl rfl (pa_cons (pe_call (ok__law_numbers T) (hr.mono (by decide)) (by rfl) T.g__law_numbers T.F__law_numbers.kp T.b__law_numbers .nil pass0 (pa_cons (pv 0) pa_nil)) (pa_cons (pe_call (ok__law_weights T) (hr.mono (by decide)) (by rfl) T.g__law_weights T.F__law_weights.kp T.b__law_weights .nil pass0 (pa_cons (pv 0) pa_nil)) pa_nil)) (by rfl))
      (pss_cons (ps_if (PW.pt (pw_or (pt_not (pt_val (pe_call (ok__law_evens_right T) (hr.mono (by decide)) (by rfl) T.g__law_evens_right T.F__law_evens_right.kp T.b__law_evens_right .nil pass0 (pa_cons (pv 1) (pa_cons (pv 0) pa_nil))))) (pw_or1 (pt_not (pt_val (pe_call (ok__law_sums_right T) (hr.mono (by decide)) (by rfl) T.g__law_sums_right T.F__law_sums_right.kp T.b__law_sums_right .nil pass0 (pa_cons (pv 1) (pa_cons (pv 2) (pa_cons (pv 0) pa_nil))))))))) (pss_one (ps_ret pe_bl)) pss_nil)
      (pss_cons (ps_if (PW.pt (pw_or (pt_not (pt_val (pe_call (ok__law_squares_right T) (hr.mono (by decide)) (by rfl) T.g__law_squares_right T.F__law_squares_right.kp T.b__law_squares_right .nil pass0 (pa_cons (pv 1) (pa_cons (pv 2) (pa_cons (pv 0) pa_nil)))))) (pw_or1 (pt_not (pt_val (pe_call (ok__law_bands_right T) (hr.mono (by decide)) (by rfl) T.g__law_bands_right T.F__law_bands_right.kp T.b__law_bands_right .nil pass0 (pa_cons (pv 1) (pa_cons (pv 0) pa_nil)))))))) (pss_one (ps_ret pe_bl)) pss_nil)
      (pss_one (ps_ret (pe_call0 (ok__law_few_right T) (hr.mono (by decide)) (by rfl) T.g__law_few_right T.F__law_few_right.kp T.b__law_few_right .nil pass0)))))), fun ds d h => ?_⟩
  obtain ⟨s, rfl, hl, hf, rfl⟩ := h
  change DS _ _ [B.im _, B.no, B.no] _
  have ln := nums_len s
  have lw := wOf_len s
  have hP : PI7 (numsOf s) (wOf s) := ⟨by omega, by omega, wOf_wts s, fun n h => (nums_fit s hf n h).mono (by decide)⟩
  have h63 := hP.l
  walk_at "par"
  · exact hl
  · exact hl
  apply ds_seq
  refine ds_ifF (dto (dt_or (x := false) (y := false) (dt_not (x := true) (dt_test ?_)) fun _ => dt_not (x := true) (dt_test ?_))) (ds_next ?_)
  · exact de_call (da_cons (de_var rfl) (da_cons (de_var rfl) da_nil)) (c__law_evens_right h63 hl) rfl
  · exact de_call (da_cons (de_var rfl) (da_cons (de_var rfl) (da_cons (de_var rfl) da_nil))) (c__law_sums_right hP hl) rfl
  apply ds_seq
  refine ds_ifF (dto (dt_or (x := false) (y := false) (dt_not (x := true) (dt_test ?_)) fun _ => dt_not (x := true) (dt_test ?_))) (ds_next ?_)
  · exact de_call (da_cons (de_var rfl) (da_cons (de_var rfl) (da_cons (de_var rfl) da_nil))) (c__law_squares_right hP hl) rfl
  · exact de_call (da_cons (de_var rfl) (da_cons (de_var rfl) da_nil)) (c__law_bands_right h63 hl) rfl
  exact ds_ret (d := .bl true) (deo (de_call da_nil c__law_few_right rfl)) rfl
theorem law_goes (ns : List Int) (h : ns.length ≤ 63) (h2 : ∀ z ∈ ns, Fit 1048577 z) : R_law [.lst (dI ns)] (.bl true) := ⟨ns, rfl, h, h2, rfl⟩
end
end U

namespace U
open PySem PySem.Spec PyProof.Rows L2 DL
theorem all_mk {l : PySem.W.OpenLaw} {w : World} {K : PySem.W.Frag} {h : Heap} {mg : Str → Option Value} {fa : Addr} (X : K.In h) (G : h.Ns mainGlobals mg) (hfa : mg "law" = some (.ref fa))
    {od1 an1 : Option Addr} {sl1 : Array (Option Value)} {oc1 kV1 dc1 pm1 cd1 ct1 : Value} {f1 : Addr}
    {od2 an2 : Option Addr} {sl2 : Array (Option Value)} {oc2 kV2 dc2 pm2 cd2 ct2 : Value} {f2 : Addr}
    {od3 an3 : Option Addr} {sl3 : Array (Option Value)} {oc3 kV3 dc3 pm3 cd3 ct3 : Value} {f3 : Addr}
    {od4 an4 : Option Addr} {sl4 : Array (Option Value)} {oc4 kV4 dc4 pm4 cd4 ct4 : Value} {f4 : Addr}
    {od5 an5 : Option Addr} {sl5 : Array (Option Value)} {oc5 kV5 dc5 pm5 cd5 ct5 : Value} {f5 : Addr}
    {od6 an6 : Option Addr} {sl6 : Array (Option Value)} {oc6 kV6 dc6 pm6 cd6 ct6 : Value} {f6 : Addr}
    {od7 an7 : Option Addr} {sl7 : Array (Option Value)} {oc7 kV7 dc7 pm7 cd7 ct7 : Value} {f7 : Addr}
    {od8 an8 : Option Addr} {sl8 : Array (Option Value)} {oc8 kV8 dc8 pm8 cd8 ct8 : Value} {f8 : Addr}
    {od9 an9 : Option Addr} {sl9 : Array (Option Value)} {oc9 kV9 dc9 pm9 cd9 ct9 : Value} {f9 : Addr}
    {od10 an10 : Option Addr} {sl10 : Array (Option Value)} {oc10 kV10 dc10 pm10 cd10 ct10 : Value} {f10 : Addr}
    {od11 an11 : Option Addr} {sl11 : Array (Option Value)} {oc11 kV11 dc11 pm11 cd11 ct11 : Value} {f11 : Addr}
    {od12 an12 : Option Addr} {sl12 : Array (Option Value)} {oc12 kV12 dc12 pm12 cd12 ct12 : Value} {f12 : Addr}
    {od13 an13 : Option Addr} {sl13 : Array (Option Value)} {oc13 kV13 dc13 pm13 cd13 ct13 : Value} {f13 : Addr}
    {od14 an14 : Option Addr} {sl14 : Array (Option Value)} {oc14 kV14 dc14 pm14 cd14 ct14 : Value} {f14 : Addr}
    {od15 an15 : Option Addr} {sl15 : Array (Option Value)} {oc15 kV15 dc15 pm15 cd15 ct15 : Value} {f15 : Addr}
    {od16 an16 : Option Addr} {sl16 : Array (Option Value)} {oc16 kV16 dc16 pm16 cd16 ct16 : Value} {f16 : Addr}
    {od17 an17 : Option Addr} {sl17 : Array (Option Value)} {oc17 kV17 dc17 pm17 cd17 ct17 : Value} {f17 : Addr}
    {od18 an18 : Option Addr} {sl18 : Array (Option Value)} {oc18 kV18 dc18 pm18 cd18 ct18 : Value} {f18 : Addr}
    {od19 an19 : Option Addr} {sl19 : Array (Option Value)} {oc19 kV19 dc19 pm19 cd19 ct19 : Value} {f19 : Addr}
    {od20 an20 : Option Addr} {sl20 : Array (Option Value)} {oc20 kV20 dc20 pm20 cd20 ct20 : Value} {f20 : Addr}
    {od21 an21 : Option Addr} {sl21 : Array (Option Value)} {oc21 kV21 dc21 pm21 cd21 ct21 : Value} {f21 : Addr}
    {od22 an22 : Option Addr} {sl22 : Array (Option Value)} {oc22 kV22 dc22 pm22 cd22 ct22 : Value} {f22 : Addr}
    {od23 an23 : Option Addr} {sl23 : Array (Option Value)} {oc23 kV23 dc23 pm23 cd23 ct23 : Value} {f23 : Addr}
    {od24 an24 : Option Addr} {sl24 : Array (Option Value)} {oc24 kV24 dc24 pm24 cd24 ct24 : Value} {f24 : Addr}
    {od25 an25 : Option Addr} {sl25 : Array (Option Value)} {oc25 kV25 dc25 pm25 cd25 ct25 : Value} {f25 : Addr}
    {od26 an26 : Option Addr} {sl26 : Array (Option Value)} {oc26 kV26 dc26 pm26 cd26 ct26 : Value} {f26 : Addr}
    {od27 an27 : Option Addr} {sl27 : Array (Option Value)} {oc27 kV27 dc27 pm27 cd27 ct27 : Value} {f27 : Addr}
    {od28 an28 : Option Addr} {sl28 : Array (Option Value)} {oc28 kV28 dc28 pm28 cd28 ct28 : Value} {f28 : Addr}
    {od29 an29 : Option Addr} {sl29 : Array (Option Value)} {oc29 kV29 dc29 pm29 cd29 ct29 : Value} {f29 : Addr}
    {od30 an30 : Option Addr} {sl30 : Array (Option Value)} {oc30 kV30 dc30 pm30 cd30 ct30 : Value} {f30 : Addr}
    {od31 an31 : Option Addr} {sl31 : Array (Option Value)} {oc31 kV31 dc31 pm31 cd31 ct31 : Value} {f31 : Addr}
    {od32 an32 : Option Addr} {sl32 : Array (Option Value)} {oc32 kV32 dc32 pm32 cd32 ct32 : Value} {f32 : Addr}
    {od33 an33 : Option Addr} {sl33 : Array (Option Value)} {oc33 kV33 dc33 pm33 cd33 ct33 : Value} {f33 : Addr}
    {od34 an34 : Option Addr} {sl34 : Array (Option Value)} {oc34 kV34 dc34 pm34 cd34 ct34 : Value} {f34 : Addr}
    {od35 an35 : Option Addr} {sl35 : Array (Option Value)} {oc35 kV35 dc35 pm35 cd35 ct35 : Value} {f35 : Addr}
    {od36 an36 : Option Addr} {sl36 : Array (Option Value)} {oc36 kV36 dc36 pm36 cd36 ct36 : Value} {f36 : Addr}
    {od37 an37 : Option Addr} {sl37 : Array (Option Value)} {oc37 kV37 dc37 pm37 cd37 ct37 : Value} {f37 : Addr}
    {od38 an38 : Option Addr} {sl38 : Array (Option Value)} {oc38 kV38 dc38 pm38 cd38 ct38 : Value} {f38 : Addr}
    {od39 an39 : Option Addr} {sl39 : Array (Option Value)} {oc39 kV39 dc39 pm39 cd39 ct39 : Value} {f39 : Addr}
    {od40 an40 : Option Addr} {sl40 : Array (Option Value)} {oc40 kV40 dc40 pm40 cd40 ct40 : Value} {f40 : Addr}
    {od41 an41 : Option Addr} {sl41 : Array (Option Value)} {oc41 kV41 dc41 pm41 cd41 ct41 : Value} {f41 : Addr}
    {od42 an42 : Option Addr} {sl42 : Array (Option Value)} {oc42 kV42 dc42 pm42 cd42 ct42 : Value} {f42 : Addr}
    {od43 an43 : Option Addr} {sl43 : Array (Option Value)} {oc43 kV43 dc43 pm43 cd43 ct43 : Value} {f43 : Addr}
    {od44 an44 : Option Addr} {sl44 : Array (Option Value)} {oc44 kV44 dc44 pm44 cd44 ct44 : Value} {f44 : Addr}
    {od45 an45 : Option Addr} {sl45 : Array (Option Value)} {oc45 kV45 dc45 pm45 cd45 ct45 : Value} {f45 : Addr}
    {od46 an46 : Option Addr} {sl46 : Array (Option Value)} {oc46 kV46 dc46 pm46 cd46 ct46 : Value} {f46 : Addr}
    {od47 an47 : Option Addr} {sl47 : Array (Option Value)} {oc47 kV47 dc47 pm47 cd47 ct47 : Value} {f47 : Addr}
    {od48 an48 : Option Addr} {sl48 : Array (Option Value)} {oc48 kV48 dc48 pm48 cd48 ct48 : Value} {f48 : Addr}
    {od49 an49 : Option Addr} {sl49 : Array (Option Value)} {oc49 kV49 dc49 pm49 cd49 ct49 : Value} {f49 : Addr}
    {od50 an50 : Option Addr} {sl50 : Array (Option Value)} {oc50 kV50 dc50 pm50 cd50 ct50 : Value} {f50 : Addr}
    {od51 an51 : Option Addr} {sl51 : Array (Option Value)} {oc51 kV51 dc51 pm51 cd51 ct51 : Value} {f51 : Addr}
    {ZBand : Addr}
    {ZBarred : Addr}
    {ZEvened : Addr}
    {ZSquared : Addr}
    {ZSummed : Addr}
    {cT PT : Addr} {eT : Value} {ddT : Option Addr} {vsT : Array Value} {slT : Array (Option Value)}
    (yBand : PySem.W.nsIn K mainGlobals "Band" = some (some (.ref ZBand)))
    (yBarred : PySem.W.nsIn K mainGlobals "Barred" = some (some (.ref ZBarred)))
    (yEvened : PySem.W.nsIn K mainGlobals "Evened" = some (some (.ref ZEvened)))
    (ySquared : PySem.W.nsIn K mainGlobals "Squared" = some (some (.ref ZSquared)))
    (ySummed : PySem.W.nsIn K mainGlobals "Summed" = some (some (.ref ZSummed)))
    (ocd : PySem.W.specialIn K (.builtin "object.__class__") "__get__" = some (some (.builtin "getset_descriptor.__get__"))) (oct : PySem.W.takesIn K (.builtin "object.__class__") = some true)
    (pgBand : PySem.W.plainGet K ZBand Str.empty = true) (hdBand : PySem.W.hasDictIn K ZBand = true) (poBand : PySem.W.plainOver K ZBand = true) (saBand : PySem.W.findIn K (.ref ZBand) "__setattr__" = some (some (.builtin "object.__setattr__"))) (mkBand : PySem.W.makesIn K ZBand = true) (kcBand : PySem.W.keepIn K (.ref ZBand) = true)
    (caBand : PySem.W.findIn K (.ref ZBand) "__class__" = some (some (.builtin "object.__class__"))) (mrBand : PySem.W.mroIn K ZBand (.type "object") = some true) (meBand : PySem.W.kitOne K (.ref ZBand) (.ref ZBand) = some true)
    (naBandlows : PySem.W.findIn K (.ref ZBand) "lows" = some none)
    (naBandhighs : PySem.W.findIn K (.ref ZBand) "highs" = some none)
    (pgBarred : PySem.W.plainGet K ZBarred Str.empty = true) (hdBarred : PySem.W.hasDictIn K ZBarred = true) (poBarred : PySem.W.plainOver K ZBarred = true) (saBarred : PySem.W.findIn K (.ref ZBarred) "__setattr__" = some (some (.builtin "object.__setattr__"))) (mkBarred : PySem.W.makesIn K ZBarred = true) (kcBarred : PySem.W.keepIn K (.ref ZBarred) = true)
    (caBarred : PySem.W.findIn K (.ref ZBarred) "__class__" = some (some (.builtin "object.__class__"))) (mrBarred : PySem.W.mroIn K ZBarred (.type "object") = some true) (meBarred : PySem.W.kitOne K (.ref ZBarred) (.ref ZBarred) = some true)
    (naBarredfirst : PySem.W.findIn K (.ref ZBarred) "first" = some none)
    (naBarredsecond : PySem.W.findIn K (.ref ZBarred) "second" = some none)
    (pgEvened : PySem.W.plainGet K ZEvened Str.empty = true) (hdEvened : PySem.W.hasDictIn K ZEvened = true) (poEvened : PySem.W.plainOver K ZEvened = true) (saEvened : PySem.W.findIn K (.ref ZEvened) "__setattr__" = some (some (.builtin "object.__setattr__"))) (mkEvened : PySem.W.makesIn K ZEvened = true) (kcEvened : PySem.W.keepIn K (.ref ZEvened) = true)
    (caEvened : PySem.W.findIn K (.ref ZEvened) "__class__" = some (some (.builtin "object.__class__"))) (mrEvened : PySem.W.mroIn K ZEvened (.type "object") = some true) (meEvened : PySem.W.kitOne K (.ref ZEvened) (.ref ZEvened) = some true)
    (naEvenedrow : PySem.W.findIn K (.ref ZEvened) "row" = some none)
    (naEvenedfirst : PySem.W.findIn K (.ref ZEvened) "first" = some none)
    (naEvenedsecond : PySem.W.findIn K (.ref ZEvened) "second" = some none)
    (pgSquared : PySem.W.plainGet K ZSquared Str.empty = true) (hdSquared : PySem.W.hasDictIn K ZSquared = true) (poSquared : PySem.W.plainOver K ZSquared = true) (saSquared : PySem.W.findIn K (.ref ZSquared) "__setattr__" = some (some (.builtin "object.__setattr__"))) (mkSquared : PySem.W.makesIn K ZSquared = true) (kcSquared : PySem.W.keepIn K (.ref ZSquared) = true)
    (caSquared : PySem.W.findIn K (.ref ZSquared) "__class__" = some (some (.builtin "object.__class__"))) (mrSquared : PySem.W.mroIn K ZSquared (.type "object") = some true) (meSquared : PySem.W.kitOne K (.ref ZSquared) (.ref ZSquared) = some true)
    (naSquaredrow : PySem.W.findIn K (.ref ZSquared) "row" = some none)
    (pgSummed : PySem.W.plainGet K ZSummed Str.empty = true) (hdSummed : PySem.W.hasDictIn K ZSummed = true) (poSummed : PySem.W.plainOver K ZSummed = true) (saSummed : PySem.W.findIn K (.ref ZSummed) "__setattr__" = some (some (.builtin "object.__setattr__"))) (mkSummed : PySem.W.makesIn K ZSummed = true) (kcSummed : PySem.W.keepIn K (.ref ZSummed) = true)
    (caSummed : PySem.W.findIn K (.ref ZSummed) "__class__" = some (some (.builtin "object.__class__"))) (mrSummed : PySem.W.mroIn K ZSummed (.type "object") = some true) (meSummed : PySem.W.kitOne K (.ref ZSummed) (.ref ZSummed) = some true)
    (naSummedrow : PySem.W.findIn K (.ref ZSummed) "row" = some none)
    (naSummedpulls : PySem.W.findIn K (.ref ZSummed) "pulls" = some none)
    (isBandBarred : PySem.W.kitOne K (.ref ZBand) (.ref ZBarred) = some false)
    (isBandEvened : PySem.W.kitOne K (.ref ZBand) (.ref ZEvened) = some false)
    (isBandSquared : PySem.W.kitOne K (.ref ZBand) (.ref ZSquared) = some false)
    (isBandSummed : PySem.W.kitOne K (.ref ZBand) (.ref ZSummed) = some false)
    (isBarredBand : PySem.W.kitOne K (.ref ZBarred) (.ref ZBand) = some false)
    (isBarredEvened : PySem.W.kitOne K (.ref ZBarred) (.ref ZEvened) = some false)
    (isBarredSquared : PySem.W.kitOne K (.ref ZBarred) (.ref ZSquared) = some false)
    (isBarredSummed : PySem.W.kitOne K (.ref ZBarred) (.ref ZSummed) = some false)
    (isEvenedBand : PySem.W.kitOne K (.ref ZEvened) (.ref ZBand) = some false)
    (isEvenedBarred : PySem.W.kitOne K (.ref ZEvened) (.ref ZBarred) = some false)
    (isEvenedSquared : PySem.W.kitOne K (.ref ZEvened) (.ref ZSquared) = some false)
    (isEvenedSummed : PySem.W.kitOne K (.ref ZEvened) (.ref ZSummed) = some false)
    (isSquaredBand : PySem.W.kitOne K (.ref ZSquared) (.ref ZBand) = some false)
    (isSquaredBarred : PySem.W.kitOne K (.ref ZSquared) (.ref ZBarred) = some false)
    (isSquaredEvened : PySem.W.kitOne K (.ref ZSquared) (.ref ZEvened) = some false)
    (isSquaredSummed : PySem.W.kitOne K (.ref ZSquared) (.ref ZSummed) = some false)
    (isSummedBand : PySem.W.kitOne K (.ref ZSummed) (.ref ZBand) = some false)
    (isSummedBarred : PySem.W.kitOne K (.ref ZSummed) (.ref ZBarred) = some false)
    (isSummedEvened : PySem.W.kitOne K (.ref ZSummed) (.ref ZEvened) = some false)
    (isSummedSquared : PySem.W.kitOne K (.ref ZSummed) (.ref ZSquared) = some false)
    (a1 : PySem.W.nsIn K mainGlobals "is_number" = some (some (.ref f1))) (l1 : K.lookup f1 = some ⟨oc1, od1, .func (PySem.W.fnOf "is_number" "is_number" (defArgs s_is_number) (defBody s_is_number) (defScope s_is_number) .none kV1 dc1 pm1 an1 cd1 ct1), sl1⟩) (c1 : PySem.W.codeIn K cd1 "is_number" = true) (k1 : PySem.W.keepIn K (.ref f1) = true)
    (a2 : PySem.W.nsIn K mainGlobals "common" = some (some (.ref f2))) (l2 : K.lookup f2 = some ⟨oc2, od2, .func (PySem.W.fnOf "common" "common" (defArgs s_common) (defBody s_common) (defScope s_common) .none kV2 dc2 pm2 an2 cd2 ct2), sl2⟩) (c2 : PySem.W.codeIn K cd2 "common" = true) (k2 : PySem.W.keepIn K (.ref f2) = true)
    (a3 : PySem.W.nsIn K mainGlobals "lowest" = some (some (.ref f3))) (l3 : K.lookup f3 = some ⟨oc3, od3, .func (PySem.W.fnOf "lowest" "lowest" (defArgs s_lowest) (defBody s_lowest) (defScope s_lowest) .none kV3 dc3 pm3 an3 cd3 ct3), sl3⟩) (c3 : PySem.W.codeIn K cd3 "lowest" = true) (k3 : PySem.W.keepIn K (.ref f3) = true)
    (a4 : PySem.W.nsIn K mainGlobals "plus" = some (some (.ref f4))) (l4 : K.lookup f4 = some ⟨oc4, od4, .func (PySem.W.fnOf "plus" "plus" (defArgs s_plus) (defBody s_plus) (defScope s_plus) .none kV4 dc4 pm4 an4 cd4 ct4), sl4⟩) (c4 : PySem.W.codeIn K cd4 "plus" = true) (k4 : PySem.W.keepIn K (.ref f4) = true)
    (a5 : PySem.W.nsIn K mainGlobals "lack" = some (some (.ref f5))) (l5 : K.lookup f5 = some ⟨oc5, od5, .func (PySem.W.fnOf "lack" "lack" (defArgs s_lack) (defBody s_lack) (defScope s_lack) .none kV5 dc5 pm5 an5 cd5 ct5), sl5⟩) (c5 : PySem.W.codeIn K cd5 "lack" = true) (k5 : PySem.W.keepIn K (.ref f5) = true)
    (a6 : PySem.W.nsIn K mainGlobals "less" = some (some (.ref f6))) (l6 : K.lookup f6 = some ⟨oc6, od6, .func (PySem.W.fnOf "less" "less" (defArgs s_less) (defBody s_less) (defScope s_less) .none kV6 dc6 pm6 an6 cd6 ct6), sl6⟩) (c6 : PySem.W.codeIn K cd6 "less" = true) (k6 : PySem.W.keepIn K (.ref f6) = true)
    (a7 : PySem.W.nsIn K mainGlobals "are_numbers" = some (some (.ref f7))) (l7 : K.lookup f7 = some ⟨oc7, od7, .func (PySem.W.fnOf "are_numbers" "are_numbers" (defArgs s_are_numbers) (defBody s_are_numbers) (defScope s_are_numbers) .none kV7 dc7 pm7 an7 cd7 ct7), sl7⟩) (c7 : PySem.W.codeIn K cd7 "are_numbers" = true) (k7 : PySem.W.keepIn K (.ref f7) = true)
    (a8 : PySem.W.nsIn K mainGlobals "check_numbers" = some (some (.ref f8))) (l8 : K.lookup f8 = some ⟨oc8, od8, .func (PySem.W.fnOf "check_numbers" "check_numbers" (defArgs s_check_numbers) (defBody s_check_numbers) (defScope s_check_numbers) .none kV8 dc8 pm8 an8 cd8 ct8), sl8⟩) (c8 : PySem.W.codeIn K cd8 "check_numbers" = true) (k8 : PySem.W.keepIn K (.ref f8) = true)
    (a9 : PySem.W.nsIn K mainGlobals "check_weights" = some (some (.ref f9))) (l9 : K.lookup f9 = some ⟨oc9, od9, .func (PySem.W.fnOf "check_weights" "check_weights" (defArgs s_check_weights) (defBody s_check_weights) (defScope s_check_weights) .none kV9 dc9 pm9 an9 cd9 ct9), sl9⟩) (c9 : PySem.W.codeIn K cd9 "check_weights" = true) (k9 : PySem.W.keepIn K (.ref f9) = true)
    (a10 : PySem.W.nsIn K mainGlobals "greatest_of" = some (some (.ref f10))) (l10 : K.lookup f10 = some ⟨oc10, od10, .func (PySem.W.fnOf "greatest_of" "greatest_of" (defArgs s_greatest_of) (defBody s_greatest_of) (defScope s_greatest_of) .none kV10 dc10 pm10 an10 cd10 ct10), sl10⟩) (c10 : PySem.W.codeIn K cd10 "greatest_of" = true) (k10 : PySem.W.keepIn K (.ref f10) = true)
    (a11 : PySem.W.nsIn K mainGlobals "sum_of" = some (some (.ref f11))) (l11 : K.lookup f11 = some ⟨oc11, od11, .func (PySem.W.fnOf "sum_of" "sum_of" (defArgs s_sum_of) (defBody s_sum_of) (defScope s_sum_of) .none kV11 dc11 pm11 an11 cd11 ct11), sl11⟩) (c11 : PySem.W.codeIn K cd11 "sum_of" = true) (k11 : PySem.W.keepIn K (.ref f11) = true)
    (a12 : PySem.W.nsIn K mainGlobals "rises" = some (some (.ref f12))) (l12 : K.lookup f12 = some ⟨oc12, od12, .func (PySem.W.fnOf "rises" "rises" (defArgs s_rises) (defBody s_rises) (defScope s_rises) .none kV12 dc12 pm12 an12 cd12 ct12), sl12⟩) (c12 : PySem.W.codeIn K cd12 "rises" = true) (k12 : PySem.W.keepIn K (.ref f12) = true)
    (a13 : PySem.W.findIn K (.ref ZEvened) "__init__" = some (some (.ref f13))) (i13 : PySem.W.isFn K (.ref f13) = true) (l13 : K.lookup f13 = some ⟨oc13, od13, .func (PySem.W.fnOf "__init__" "Evened.__init__" (defArgs s_Evened___init__) (defBody s_Evened___init__) (defScope s_Evened___init__) .none kV13 dc13 pm13 an13 cd13 ct13), sl13⟩) (c13 : PySem.W.codeIn K cd13 "Evened.__init__" = true) (k13 : PySem.W.keepIn K (.ref f13) = true)
    (a14 : PySem.W.findIn K (.ref ZEvened) "shows" = some (some (.ref f14))) (i14 : PySem.W.isFn K (.ref f14) = true) (l14 : K.lookup f14 = some ⟨oc14, od14, .func (PySem.W.fnOf "shows" "Evened.shows" (defArgs s_Evened_shows) (defBody s_Evened_shows) (defScope s_Evened_shows) .none kV14 dc14 pm14 an14 cd14 ct14), sl14⟩) (c14 : PySem.W.codeIn K cd14 "Evened.shows" = true) (k14 : PySem.W.keepIn K (.ref f14) = true)
    (a15 : PySem.W.nsIn K mainGlobals "from_nought" = some (some (.ref f15))) (l15 : K.lookup f15 = some ⟨oc15, od15, .func (PySem.W.fnOf "from_nought" "from_nought" (defArgs s_from_nought) (defBody s_from_nought) (defScope s_from_nought) .none kV15 dc15 pm15 an15 cd15 ct15), sl15⟩) (c15 : PySem.W.codeIn K cd15 "from_nought" = true) (k15 : PySem.W.keepIn K (.ref f15) = true)
    (a16 : PySem.W.findIn K (.ref ZSummed) "__init__" = some (some (.ref f16))) (i16 : PySem.W.isFn K (.ref f16) = true) (l16 : K.lookup f16 = some ⟨oc16, od16, .func (PySem.W.fnOf "__init__" "Summed.__init__" (defArgs s_Summed___init__) (defBody s_Summed___init__) (defScope s_Summed___init__) .none kV16 dc16 pm16 an16 cd16 ct16), sl16⟩) (c16 : PySem.W.codeIn K cd16 "Summed.__init__" = true) (k16 : PySem.W.keepIn K (.ref f16) = true)
    (a17 : PySem.W.findIn K (.ref ZSummed) "shows" = some (some (.ref f17))) (i17 : PySem.W.isFn K (.ref f17) = true) (l17 : K.lookup f17 = some ⟨oc17, od17, .func (PySem.W.fnOf "shows" "Summed.shows" (defArgs s_Summed_shows) (defBody s_Summed_shows) (defScope s_Summed_shows) .none kV17 dc17 pm17 an17 cd17 ct17), sl17⟩) (c17 : PySem.W.codeIn K cd17 "Summed.shows" = true) (k17 : PySem.W.keepIn K (.ref f17) = true)
    (a18 : PySem.W.findIn K (.ref ZSquared) "__init__" = some (some (.ref f18))) (i18 : PySem.W.isFn K (.ref f18) = true) (l18 : K.lookup f18 = some ⟨oc18, od18, .func (PySem.W.fnOf "__init__" "Squared.__init__" (defArgs s_Squared___init__) (defBody s_Squared___init__) (defScope s_Squared___init__) .none kV18 dc18 pm18 an18 cd18 ct18), sl18⟩) (c18 : PySem.W.codeIn K cd18 "Squared.__init__" = true) (k18 : PySem.W.keepIn K (.ref f18) = true)
    (a19 : PySem.W.findIn K (.ref ZSquared) "shows" = some (some (.ref f19))) (i19 : PySem.W.isFn K (.ref f19) = true) (l19 : K.lookup f19 = some ⟨oc19, od19, .func (PySem.W.fnOf "shows" "Squared.shows" (defArgs s_Squared_shows) (defBody s_Squared_shows) (defScope s_Squared_shows) .none kV19 dc19 pm19 an19 cd19 ct19), sl19⟩) (c19 : PySem.W.codeIn K cd19 "Squared.shows" = true) (k19 : PySem.W.keepIn K (.ref f19) = true)
    (a20 : PySem.W.nsIn K mainGlobals "highest_so_far" = some (some (.ref f20))) (l20 : K.lookup f20 = some ⟨oc20, od20, .func (PySem.W.fnOf "highest_so_far" "highest_so_far" (defArgs s_highest_so_far) (defBody s_highest_so_far) (defScope s_highest_so_far) .none kV20 dc20 pm20 an20 cd20 ct20), sl20⟩) (c20 : PySem.W.codeIn K cd20 "highest_so_far" = true) (k20 : PySem.W.keepIn K (.ref f20) = true)
    (a21 : PySem.W.nsIn K mainGlobals "lowest_from" = some (some (.ref f21))) (l21 : K.lookup f21 = some ⟨oc21, od21, .func (PySem.W.fnOf "lowest_from" "lowest_from" (defArgs s_lowest_from) (defBody s_lowest_from) (defScope s_lowest_from) .none kV21 dc21 pm21 an21 cd21 ct21), sl21⟩) (c21 : PySem.W.codeIn K cd21 "lowest_from" = true) (k21 : PySem.W.keepIn K (.ref f21) = true)
    (a22 : PySem.W.findIn K (.ref ZBand) "__init__" = some (some (.ref f22))) (i22 : PySem.W.isFn K (.ref f22) = true) (l22 : K.lookup f22 = some ⟨oc22, od22, .func (PySem.W.fnOf "__init__" "Band.__init__" (defArgs s_Band___init__) (defBody s_Band___init__) (defScope s_Band___init__) .none kV22 dc22 pm22 an22 cd22 ct22), sl22⟩) (c22 : PySem.W.codeIn K cd22 "Band.__init__" = true) (k22 : PySem.W.keepIn K (.ref f22) = true)
    (a23 : PySem.W.findIn K (.ref ZBand) "shows" = some (some (.ref f23))) (i23 : PySem.W.isFn K (.ref f23) = true) (l23 : K.lookup f23 = some ⟨oc23, od23, .func (PySem.W.fnOf "shows" "Band.shows" (defArgs s_Band_shows) (defBody s_Band_shows) (defScope s_Band_shows) .none kV23 dc23 pm23 an23 cd23 ct23), sl23⟩) (c23 : PySem.W.codeIn K cd23 "Band.shows" = true) (k23 : PySem.W.keepIn K (.ref f23) = true)
    (a24 : PySem.W.findIn K (.ref ZBarred) "__init__" = some (some (.ref f24))) (i24 : PySem.W.isFn K (.ref f24) = true) (l24 : K.lookup f24 = some ⟨oc24, od24, .func (PySem.W.fnOf "__init__" "Barred.__init__" (defArgs s_Barred___init__) (defBody s_Barred___init__) (defScope s_Barred___init__) .none kV24 dc24 pm24 an24 cd24 ct24), sl24⟩) (c24 : PySem.W.codeIn K cd24 "Barred.__init__" = true) (k24 : PySem.W.keepIn K (.ref f24) = true)
    (a25 : PySem.W.findIn K (.ref ZBarred) "shows" = some (some (.ref f25))) (i25 : PySem.W.isFn K (.ref f25) = true) (l25 : K.lookup f25 = some ⟨oc25, od25, .func (PySem.W.fnOf "shows" "Barred.shows" (defArgs s_Barred_shows) (defBody s_Barred_shows) (defScope s_Barred_shows) .none kV25 dc25 pm25 an25 cd25 ct25), sl25⟩) (c25 : PySem.W.codeIn K cd25 "Barred.shows" = true) (k25 : PySem.W.keepIn K (.ref f25) = true)
    (a26 : PySem.W.nsIn K mainGlobals "worst_places" = some (some (.ref f26))) (l26 : K.lookup f26 = some ⟨oc26, od26, .func (PySem.W.fnOf "worst_places" "worst_places" (defArgs s_worst_places) (defBody s_worst_places) (defScope s_worst_places) .none kV26 dc26 pm26 an26 cd26 ct26), sl26⟩) (c26 : PySem.W.codeIn K cd26 "worst_places" = true) (k26 : PySem.W.keepIn K (.ref f26) = true)
    (a27 : PySem.W.nsIn K mainGlobals "evened" = some (some (.ref f27))) (l27 : K.lookup f27 = some ⟨oc27, od27, .func (PySem.W.fnOf "evened" "evened" (defArgs s_evened) (defBody s_evened) (defScope s_evened) .none kV27 dc27 pm27 an27 cd27 ct27), sl27⟩) (c27 : PySem.W.codeIn K cd27 "evened" = true) (k27 : PySem.W.keepIn K (.ref f27) = true)
    (a28 : PySem.W.nsIn K mainGlobals "median" = some (some (.ref f28))) (l28 : K.lookup f28 = some ⟨oc28, od28, .func (PySem.W.fnOf "median" "median" (defArgs s_median) (defBody s_median) (defScope s_median) .none kV28 dc28 pm28 an28 cd28 ct28), sl28⟩) (c28 : PySem.W.codeIn K cd28 "median" = true) (k28 : PySem.W.keepIn K (.ref f28) = true)
    (a29 : PySem.W.nsIn K mainGlobals "pooled" = some (some (.ref f29))) (l29 : K.lookup f29 = some ⟨oc29, od29, .func (PySem.W.fnOf "pooled" "pooled" (defArgs s_pooled) (defBody s_pooled) (defScope s_pooled) .none kV29 dc29 pm29 an29 cd29 ct29), sl29⟩) (c29 : PySem.W.codeIn K cd29 "pooled" = true) (k29 : PySem.W.keepIn K (.ref f29) = true)
    (a30 : PySem.W.nsIn K mainGlobals "pulls_of" = some (some (.ref f30))) (l30 : K.lookup f30 = some ⟨oc30, od30, .func (PySem.W.fnOf "pulls_of" "pulls_of" (defArgs s_pulls_of) (defBody s_pulls_of) (defScope s_pulls_of) .none kV30 dc30 pm30 an30 cd30 ct30), sl30⟩) (c30 : PySem.W.codeIn K cd30 "pulls_of" = true) (k30 : PySem.W.keepIn K (.ref f30) = true)
    (a31 : PySem.W.nsIn K mainGlobals "summed" = some (some (.ref f31))) (l31 : K.lookup f31 = some ⟨oc31, od31, .func (PySem.W.fnOf "summed" "summed" (defArgs s_summed) (defBody s_summed) (defScope s_summed) .none kV31 dc31 pm31 an31 cd31 ct31), sl31⟩) (c31 : PySem.W.codeIn K cd31 "summed" = true) (k31 : PySem.W.keepIn K (.ref f31) = true)
    (a32 : PySem.W.nsIn K mainGlobals "squared" = some (some (.ref f32))) (l32 : K.lookup f32 = some ⟨oc32, od32, .func (PySem.W.fnOf "squared" "squared" (defArgs s_squared) (defBody s_squared) (defScope s_squared) .none kV32 dc32 pm32 an32 cd32 ct32), sl32⟩) (c32 : PySem.W.codeIn K cd32 "squared" = true) (k32 : PySem.W.keepIn K (.ref f32) = true)
    (a33 : PySem.W.nsIn K mainGlobals "upper" = some (some (.ref f33))) (l33 : K.lookup f33 = some ⟨oc33, od33, .func (PySem.W.fnOf "upper" "upper" (defArgs s_upper) (defBody s_upper) (defScope s_upper) .none kV33 dc33 pm33 an33 cd33 ct33), sl33⟩) (c33 : PySem.W.codeIn K cd33 "upper" = true) (k33 : PySem.W.keepIn K (.ref f33) = true)
    (a34 : PySem.W.nsIn K mainGlobals "lower" = some (some (.ref f34))) (l34 : K.lookup f34 = some ⟨oc34, od34, .func (PySem.W.fnOf "lower" "lower" (defArgs s_lower) (defBody s_lower) (defScope s_lower) .none kV34 dc34 pm34 an34 cd34 ct34), sl34⟩) (c34 : PySem.W.codeIn K cd34 "lower" = true) (k34 : PySem.W.keepIn K (.ref f34) = true)
    (a35 : PySem.W.nsIn K mainGlobals "_law_numbers" = some (some (.ref f35))) (l35 : K.lookup f35 = some ⟨oc35, od35, .func (PySem.W.fnOf "_law_numbers" "_law_numbers" (defArgs s__law_numbers) (defBody s__law_numbers) (defScope s__law_numbers) .none kV35 dc35 pm35 an35 cd35 ct35), sl35⟩) (c35 : PySem.W.codeIn K cd35 "_law_numbers" = true) (k35 : PySem.W.keepIn K (.ref f35) = true)
    (a36 : PySem.W.nsIn K mainGlobals "_law_weights" = some (some (.ref f36))) (l36 : K.lookup f36 = some ⟨oc36, od36, .func (PySem.W.fnOf "_law_weights" "_law_weights" (defArgs s__law_weights) (defBody s__law_weights) (defScope s__law_weights) .none kV36 dc36 pm36 an36 cd36 ct36), sl36⟩) (c36 : PySem.W.codeIn K cd36 "_law_weights" = true) (k36 : PySem.W.keepIn K (.ref f36) = true)
    (a37 : PySem.W.nsIn K mainGlobals "_law_rises" = some (some (.ref f37))) (l37 : K.lookup f37 = some ⟨oc37, od37, .func (PySem.W.fnOf "_law_rises" "_law_rises" (defArgs s__law_rises) (defBody s__law_rises) (defScope s__law_rises) .none kV37 dc37 pm37 an37 cd37 ct37), sl37⟩) (c37 : PySem.W.codeIn K cd37 "_law_rises" = true) (k37 : PySem.W.keepIn K (.ref f37) = true)
    (a38 : PySem.W.nsIn K mainGlobals "_law_common" = some (some (.ref f38))) (l38 : K.lookup f38 = some ⟨oc38, od38, .func (PySem.W.fnOf "_law_common" "_law_common" (defArgs s__law_common) (defBody s__law_common) (defScope s__law_common) .none kV38 dc38 pm38 an38 cd38 ct38), sl38⟩) (c38 : PySem.W.codeIn K cd38 "_law_common" = true) (k38 : PySem.W.keepIn K (.ref f38) = true)
    (a39 : PySem.W.nsIn K mainGlobals "_law_low" = some (some (.ref f39))) (l39 : K.lookup f39 = some ⟨oc39, od39, .func (PySem.W.fnOf "_law_low" "_law_low" (defArgs s__law_low) (defBody s__law_low) (defScope s__law_low) .none kV39 dc39 pm39 an39 cd39 ct39), sl39⟩) (c39 : PySem.W.codeIn K cd39 "_law_low" = true) (k39 : PySem.W.keepIn K (.ref f39) = true)
    (a40 : PySem.W.nsIn K mainGlobals "_law_sum" = some (some (.ref f40))) (l40 : K.lookup f40 = some ⟨oc40, od40, .func (PySem.W.fnOf "_law_sum" "_law_sum" (defArgs s__law_sum) (defBody s__law_sum) (defScope s__law_sum) .none kV40 dc40 pm40 an40 cd40 ct40), sl40⟩) (c40 : PySem.W.codeIn K cd40 "_law_sum" = true) (k40 : PySem.W.keepIn K (.ref f40) = true)
    (a41 : PySem.W.nsIn K mainGlobals "_law_even" = some (some (.ref f41))) (l41 : K.lookup f41 = some ⟨oc41, od41, .func (PySem.W.fnOf "_law_even" "_law_even" (defArgs s__law_even) (defBody s__law_even) (defScope s__law_even) .none kV41 dc41 pm41 an41 cd41 ct41), sl41⟩) (c41 : PySem.W.codeIn K cd41 "_law_even" = true) (k41 : PySem.W.keepIn K (.ref f41) = true)
    (a42 : PySem.W.nsIn K mainGlobals "_law_summed" = some (some (.ref f42))) (l42 : K.lookup f42 = some ⟨oc42, od42, .func (PySem.W.fnOf "_law_summed" "_law_summed" (defArgs s__law_summed) (defBody s__law_summed) (defScope s__law_summed) .none kV42 dc42 pm42 an42 cd42 ct42), sl42⟩) (c42 : PySem.W.codeIn K cd42 "_law_summed" = true) (k42 : PySem.W.keepIn K (.ref f42) = true)
    (a43 : PySem.W.nsIn K mainGlobals "_law_squared" = some (some (.ref f43))) (l43 : K.lookup f43 = some ⟨oc43, od43, .func (PySem.W.fnOf "_law_squared" "_law_squared" (defArgs s__law_squared) (defBody s__law_squared) (defScope s__law_squared) .none kV43 dc43 pm43 an43 cd43 ct43), sl43⟩) (c43 : PySem.W.codeIn K cd43 "_law_squared" = true) (k43 : PySem.W.keepIn K (.ref f43) = true)
    (a44 : PySem.W.nsIn K mainGlobals "_law_says" = some (some (.ref f44))) (l44 : K.lookup f44 = some ⟨oc44, od44, .func (PySem.W.fnOf "_law_says" "_law_says" (defArgs s__law_says) (defBody s__law_says) (defScope s__law_says) .none kV44 dc44 pm44 an44 cd44 ct44), sl44⟩) (c44 : PySem.W.codeIn K cd44 "_law_says" = true) (k44 : PySem.W.keepIn K (.ref f44) = true)
    (a45 : PySem.W.nsIn K mainGlobals "_law_bent" = some (some (.ref f45))) (l45 : K.lookup f45 = some ⟨oc45, od45, .func (PySem.W.fnOf "_law_bent" "_law_bent" (defArgs s__law_bent) (defBody s__law_bent) (defScope s__law_bent) .none kV45 dc45 pm45 an45 cd45 ct45), sl45⟩) (c45 : PySem.W.codeIn K cd45 "_law_bent" = true) (k45 : PySem.W.keepIn K (.ref f45) = true)
    (a46 : PySem.W.nsIn K mainGlobals "_law_evens_right" = some (some (.ref f46))) (l46 : K.lookup f46 = some ⟨oc46, od46, .func (PySem.W.fnOf "_law_evens_right" "_law_evens_right" (defArgs s__law_evens_right) (defBody s__law_evens_right) (defScope s__law_evens_right) .none kV46 dc46 pm46 an46 cd46 ct46), sl46⟩) (c46 : PySem.W.codeIn K cd46 "_law_evens_right" = true) (k46 : PySem.W.keepIn K (.ref f46) = true)
    (a47 : PySem.W.nsIn K mainGlobals "_law_sums_right" = some (some (.ref f47))) (l47 : K.lookup f47 = some ⟨oc47, od47, .func (PySem.W.fnOf "_law_sums_right" "_law_sums_right" (defArgs s__law_sums_right) (defBody s__law_sums_right) (defScope s__law_sums_right) .none kV47 dc47 pm47 an47 cd47 ct47), sl47⟩) (c47 : PySem.W.codeIn K cd47 "_law_sums_right" = true) (k47 : PySem.W.keepIn K (.ref f47) = true)
    (a48 : PySem.W.nsIn K mainGlobals "_law_squares_right" = some (some (.ref f48))) (l48 : K.lookup f48 = some ⟨oc48, od48, .func (PySem.W.fnOf "_law_squares_right" "_law_squares_right" (defArgs s__law_squares_right) (defBody s__law_squares_right) (defScope s__law_squares_right) .none kV48 dc48 pm48 an48 cd48 ct48), sl48⟩) (c48 : PySem.W.codeIn K cd48 "_law_squares_right" = true) (k48 : PySem.W.keepIn K (.ref f48) = true)
    (a49 : PySem.W.nsIn K mainGlobals "_law_bands_right" = some (some (.ref f49))) (l49 : K.lookup f49 = some ⟨oc49, od49, .func (PySem.W.fnOf "_law_bands_right" "_law_bands_right" (defArgs s__law_bands_right) (defBody s__law_bands_right) (defScope s__law_bands_right) .none kV49 dc49 pm49 an49 cd49 ct49), sl49⟩) (c49 : PySem.W.codeIn K cd49 "_law_bands_right" = true) (k49 : PySem.W.keepIn K (.ref f49) = true)
    (a50 : PySem.W.nsIn K mainGlobals "_law_few_right" = some (some (.ref f50))) (l50 : K.lookup f50 = some ⟨oc50, od50, .func (PySem.W.fnOf "_law_few_right" "_law_few_right" (defArgs s__law_few_right) (defBody s__law_few_right) (defScope s__law_few_right) .none kV50 dc50 pm50 an50 cd50 ct50), sl50⟩) (c50 : PySem.W.codeIn K cd50 "_law_few_right" = true) (k50 : PySem.W.keepIn K (.ref f50) = true)
    (a51 : PySem.W.nsIn K mainGlobals "law" = some (some (.ref f51))) (l51 : K.lookup f51 = some ⟨oc51, od51, .func (PySem.W.fnOf "law" "law" (defArgs s_law) (defBody s_law) (defScope s_law) .none kV51 dc51 pm51 an51 cd51 ct51), sl51⟩) (c51 : PySem.W.codeIn K cd51 "law" = true) (k51 : PySem.W.keepIn K (.ref f51) = true)
    (z1 : PySem.W.nsIn K mainGlobals "abs" = some none)
    (z2 : PySem.W.nsIn K mainGlobals "all" = some none)
    (z3 : PySem.W.nsIn K mainGlobals "bool" = some none)
    (z4 : PySem.W.nsIn K mainGlobals "enumerate" = some none)
    (z5 : PySem.W.nsIn K mainGlobals "int" = some none)
    (z6 : PySem.W.nsIn K mainGlobals "isinstance" = some none)
    (z7 : PySem.W.nsIn K mainGlobals "len" = some none)
    (z8 : PySem.W.nsIn K mainGlobals "list" = some none)
    (z9 : PySem.W.nsIn K mainGlobals "max" = some none)
    (z10 : PySem.W.nsIn K mainGlobals "min" = some none)
    (z11 : PySem.W.nsIn K mainGlobals "range" = some none)
    (z12 : PySem.W.nsIn K mainGlobals "reversed" = some none)
    (z13 : PySem.W.nsIn K mainGlobals "sorted" = some none)
    (z14 : PySem.W.nsIn K mainGlobals "sum" = some none)
    (z15 : PySem.W.nsIn K mainGlobals "zip" = some none)
    (tabC : cd28 = .ref cT) (tabL : K.lookup cT = some ⟨eT, ddT, .fields vsT, slT⟩) (tabV : vsT[11]? = some (.ref PT)) (tabN : K.lookup PT = none) :
    ∃ (fd : FuncData) (c P : Addr), PySem.W.tabIn K "median" = some (c, P) ∧ K.lookup P = none ∧ (∀ (s : Shared) (v : Value), BindsTo s fd ⟨[v], []⟩ [("_law_script", v)]) ∧ ∀ base : Heap, K.In base → base.Ns mainGlobals mg → LamX.TabB base mg c P → FnOk l.prog w K mg base CX0 6 fa fd ["_law_script"] (spR K 1 R_law) := by
  have e := hfa.symm.trans (PySem.W.mg_of X G a51)
  cases e
  have F1 := fun_mk (st := s_is_number) l1 c1 k1
  have F2 := fun_mk (st := s_common) l2 c2 k2
  have F3 := fun_mk (st := s_lowest) l3 c3 k3
  have F4 := fun_mk (st := s_plus) l4 c4 k4
  have F5 := fun_mk (st := s_lack) l5 c5 k5
  have F6 := fun_mk (st := s_less) l6 c6 k6
  have F7 := fun_mk (st := s_are_numbers) l7 c7 k7
  have F8 := fun_mk (st := s_check_numbers) l8 c8 k8
  have F9 := fun_mk (st := s_check_weights) l9 c9 k9
  have F10 := fun_mk (st := s_greatest_of) l10 c10 k10
  have F11 := fun_mk (st := s_sum_of) l11 c11 k11
  have F12 := fun_mk (st := s_rises) l12 c12 k12
  have F13 := fun_mk (st := s_Evened___init__) l13 c13 k13
  have F14 := fun_mk (st := s_Evened_shows) l14 c14 k14
  have F15 := fun_mk (st := s_from_nought) l15 c15 k15
  have F16 := fun_mk (st := s_Summed___init__) l16 c16 k16
  have F17 := fun_mk (st := s_Summed_shows) l17 c17 k17
  have F18 := fun_mk (st := s_Squared___init__) l18 c18 k18
  have F19 := fun_mk (st := s_Squared_shows) l19 c19 k19
  have F20 := fun_mk (st := s_highest_so_far) l20 c20 k20
  have F21 := fun_mk (st := s_lowest_from) l21 c21 k21
  have F22 := fun_mk (st := s_Band___init__) l22 c22 k22
  have F23 := fun_mk (st := s_Band_shows) l23 c23 k23
  have F24 := fun_mk (st := s_Barred___init__) l24 c24 k24
  have F25 := fun_mk (st := s_Barred_shows) l25 c25 k25
  have F26 := fun_mk (st := s_worst_places) l26 c26 k26
  have F27 := fun_mk (st := s_evened) l27 c27 k27
  have F28 := fun_mk (st := s_median) l28 c28 k28
  have F29 := fun_mk (st := s_pooled) l29 c29 k29
  have F30 := fun_mk (st := s_pulls_of) l30 c30 k30
  have F31 := fun_mk (st := s_summed) l31 c31 k31
  have F32 := fun_mk (st := s_squared) l32 c32 k32
  have F33 := fun_mk (st := s_upper) l33 c33 k33
  have F34 := fun_mk (st := s_lower) l34 c34 k34
  have F35 := fun_mk (st := s__law_numbers) l35 c35 k35
  have F36 := fun_mk (st := s__law_weights) l36 c36 k36
  have F37 := fun_mk (st := s__law_rises) l37 c37 k37
  have F38 := fun_mk (st := s__law_common) l38 c38 k38
  have F39 := fun_mk (st := s__law_low) l39 c39 k39
  have F40 := fun_mk (st := s__law_sum) l40 c40 k40
  have F41 := fun_mk (st := s__law_even) l41 c41 k41
  have F42 := fun_mk (st := s__law_summed) l42 c42 k42
  have F43 := fun_mk (st := s__law_squared) l43 c43 k43
  have F44 := fun_mk (st := s__law_says) l44 c44 k44
  have F45 := fun_mk (st := s__law_bent) l45 c45 k45
  have F46 := fun_mk (st := s__law_evens_right) l46 c46 k46
  have F47 := fun_mk (st := s__law_sums_right) l47 c47 k47
  have F48 := fun_mk (st := s__law_squares_right) l48 c48 k48
  have F49 := fun_mk (st := s__law_bands_right) l49 c49 k49
  have F50 := fun_mk (st := s__law_few_right) l50 c50 k50
  have F51 := fun_mk (st := s_law) l51 c51 k51
  have tabI := tabIn_of a28 l28 tabC tabL tabV
  have b1 := F1.binds (ps := ["thing"]) fun _ _ _ _ _ _ us hl => match us, hl with | [_], _ => rfl
  have b2 := F2.binds (ps := ["one", "other"]) fun _ _ _ _ _ _ us hl => match us, hl with | [_, _], _ => rfl
  have b3 := F3.binds (ps := ["above", "below"]) fun _ _ _ _ _ _ us hl => match us, hl with | [_, _], _ => rfl
  have b4 := F4.binds (ps := ["one", "other"]) fun _ _ _ _ _ _ us hl => match us, hl with | [_, _], _ => rfl
  have b5 := F5.binds (ps := ["number", "fraction", "weight"]) fun _ _ _ _ _ _ us hl => match us, hl with | [_, _, _], _ => rfl
  have b6 := F6.binds (ps := ["one", "other"]) fun _ _ _ _ _ _ us hl => match us, hl with | [_, _], _ => rfl
  have b7 := F7.binds (ps := ["thing"]) fun _ _ _ _ _ _ us hl => match us, hl with | [_], _ => rfl
  have b8 := F8.binds (ps := ["numbers"]) fun _ _ _ _ _ _ us hl => match us, hl with | [_], _ => rfl
  have b9 := F9.binds (ps := ["numbers", "weights"]) fun _ _ _ _ _ _ us hl => match us, hl with | [_, _], _ => rfl
  have b10 := F10.binds (ps := ["numbers", "row"]) fun _ _ _ _ _ _ us hl => match us, hl with | [_, _], _ => rfl
  have b11 := F11.binds (ps := ["numbers", "row", "weights"]) fun _ _ _ _ _ _ us hl => match us, hl with | [_, _, _], _ => rfl
  have b12 := F12.binds (ps := ["row"]) fun _ _ _ _ _ _ us hl => match us, hl with | [_], _ => rfl
  have b13 := F13.binds (ps := ["self", "row", "first", "second"]) fun _ _ _ _ _ _ us hl => match us, hl with | [_, _, _, _], _ => rfl
  have b14 := F14.binds (ps := ["self", "numbers"]) fun _ _ _ _ _ _ us hl => match us, hl with | [_, _], _ => rfl
  have b15 := F15.binds (ps := ["pulls"]) fun _ _ _ _ _ _ us hl => match us, hl with | [_], _ => rfl
  have b16 := F16.binds (ps := ["self", "row", "pulls"]) fun _ _ _ _ _ _ us hl => match us, hl with | [_, _, _], _ => rfl
  have b17 := F17.binds (ps := ["self", "numbers", "weights"]) fun _ _ _ _ _ _ us hl => match us, hl with | [_, _, _], _ => rfl
  have b18 := F18.binds (ps := ["self", "row"]) fun _ _ _ _ _ _ us hl => match us, hl with | [_, _], _ => rfl
  have b19 := F19.binds (ps := ["self", "numbers", "weights"]) fun _ _ _ _ _ _ us hl => match us, hl with | [_, _, _], _ => rfl
  have b20 := F20.binds (ps := ["numbers"]) fun _ _ _ _ _ _ us hl => match us, hl with | [_], _ => rfl
  have b21 := F21.binds (ps := ["numbers"]) fun _ _ _ _ _ _ us hl => match us, hl with | [_], _ => rfl
  have b22 := F22.binds (ps := ["self", "lows", "highs"]) fun _ _ _ _ _ _ us hl => match us, hl with | [_, _, _], _ => rfl
  have b23 := F23.binds (ps := ["self", "numbers", "most"]) fun _ _ _ _ _ _ us hl => match us, hl with | [_, _, _], _ => rfl
  have b24 := F24.binds (ps := ["self", "first", "second"]) fun _ _ _ _ _ _ us hl => match us, hl with | [_, _, _], _ => rfl
  have b25 := F25.binds (ps := ["self", "numbers", "most"]) fun _ _ _ _ _ _ us hl => match us, hl with | [_, _, _], _ => rfl
  have b26 := F26.binds (ps := ["numbers"]) fun _ _ _ _ _ _ us hl => match us, hl with | [_], _ => rfl
  have b27 := F27.binds (ps := ["numbers"]) fun _ _ _ _ _ _ us hl => match us, hl with | [_], _ => rfl
  have b28 := F28.binds (ps := ["numbers", "weights", "places"]) fun _ _ _ _ _ _ us hl => match us, hl with | [_, _, _], _ => rfl
  have b29 := F29.binds (ps := ["numbers", "weights"]) fun _ _ _ _ _ _ us hl => match us, hl with | [_, _], _ => rfl
  have b30 := F30.binds (ps := ["numbers", "weights", "places", "level"]) fun _ _ _ _ _ _ us hl => match us, hl with | [_, _, _, _], _ => rfl
  have b31 := F31.binds (ps := ["numbers", "weights"]) fun _ _ _ _ _ _ us hl => match us, hl with | [_, _], _ => rfl
  have b32 := F32.binds (ps := ["numbers", "weights"]) fun _ _ _ _ _ _ us hl => match us, hl with | [_, _], _ => rfl
  have b33 := F33.binds (ps := ["numbers"]) fun _ _ _ _ _ _ us hl => match us, hl with | [_], _ => rfl
  have b34 := F34.binds (ps := ["numbers"]) fun _ _ _ _ _ _ us hl => match us, hl with | [_], _ => rfl
  have b35 := F35.binds (ps := ["_law_script"]) fun _ _ _ _ _ _ us hl => match us, hl with | [_], _ => rfl
  have b36 := F36.binds (ps := ["_law_script"]) fun _ _ _ _ _ _ us hl => match us, hl with | [_], _ => rfl
  have b37 := F37.binds (ps := ["_law_row"]) fun _ _ _ _ _ _ us hl => match us, hl with | [_], _ => rfl
  have b38 := F38.binds (ps := ["_law_one", "_law_other"]) fun _ _ _ _ _ _ us hl => match us, hl with | [_, _], _ => rfl
  have b39 := F39.binds (ps := ["_law_above", "_law_below"]) fun _ _ _ _ _ _ us hl => match us, hl with | [_, _], _ => rfl
  have b40 := F40.binds (ps := ["_law_one", "_law_other"]) fun _ _ _ _ _ _ us hl => match us, hl with | [_, _], _ => rfl
  have b41 := F41.binds (ps := ["_law_numbers_here", "_law_row", "_law_first", "_law_second"]) fun _ _ _ _ _ _ us hl => match us, hl with | [_, _, _, _], _ => rfl
  have b42 := F42.binds (ps := ["_law_numbers_here", "_law_weights_here", "_law_row", "_law_pulls"]) fun _ _ _ _ _ _ us hl => match us, hl with | [_, _, _, _], _ => rfl
  have b43 := F43.binds (ps := ["_law_numbers_here", "_law_weights_here", "_law_row"]) fun _ _ _ _ _ _ us hl => match us, hl with | [_, _, _], _ => rfl
  have b44 := F44.binds (ps := ["_law_said", "_law_due"]) fun _ _ _ _ _ _ us hl => match us, hl with | [_, _], _ => rfl
  have b45 := F45.binds (ps := ["_law_row", "_law_script"]) fun _ _ _ _ _ _ us hl => match us, hl with | [_, _], _ => rfl
  have b46 := F46.binds (ps := ["_law_numbers_here", "_law_script"]) fun _ _ _ _ _ _ us hl => match us, hl with | [_, _], _ => rfl
  have b47 := F47.binds (ps := ["_law_numbers_here", "_law_weights_here", "_law_script"]) fun _ _ _ _ _ _ us hl => match us, hl with | [_, _, _], _ => rfl
  have b48 := F48.binds (ps := ["_law_numbers_here", "_law_weights_here", "_law_script"]) fun _ _ _ _ _ _ us hl => match us, hl with | [_, _, _], _ => rfl
  have b49 := F49.binds (ps := ["_law_numbers_here", "_law_script"]) fun _ _ _ _ _ _ us hl => match us, hl with | [_, _], _ => rfl
  have b50 := F50.binds (ps := []) fun _ _ _ _ _ _ us hl => match us, hl with | [], _ => rfl
  have b51 := F51.binds (ps := ["_law_script"]) fun _ _ _ _ _ _ us hl => match us, hl with | [_], _ => rfl
  exact ⟨PySem.W.fnOf "law" "law" (defArgs s_law) (defBody s_law) (defScope s_law) .none kV51 dc51 pm51 an51 cd51 ct51, _, _, tabI, tabN, fun s v => .of_eq rfl, fun base _ _ TB => ok_law (⟨f1, _, F1, PySem.W.mg_of X G a1, b1, f2, _, F2, PySem.W.mg_of X G a2, b2, f3, _, F3, PySem.W.mg_of X G a3, b3, f4, _, F4, PySem.W.mg_of X G a4, b4, f5, _, F5, PySem.W.mg_of X G a5, b5, f6, _, F6, PySem.W.mg_of X G a6, b6, f7, _, F7, PySem.W.mg_of X G a7, b7, f8, _, F8, PySem.W.mg_of X G a8, b8, f9, _, F9, PySem.W.mg_of X G a9, b9, f10, _, F10, PySem.W.mg_of X G a10, b10, f11, _, F11, PySem.W.mg_of X G a11, b11, f12, _, F12, PySem.W.mg_of X G a12, b12, f13, _, F13, b13, f14, _, F14, b14, f15, _, F15, PySem.W.mg_of X G a15, b15, f16, _, F16, b16, f17, _, F17, b17, f18, _, F18, b18, f19, _, F19, b19, f20, _, F20, PySem.W.mg_of X G a20, b20, f21, _, F21, PySem.W.mg_of X G a21, b21, f22, _, F22, b22, f23, _, F23, b23, f24, _, F24, b24, f25, _, F25, b25, f26, _, F26, PySem.W.mg_of X G a26, b26, f27, _, F27, PySem.W.mg_of X G a27, b27, f28, _, F28, PySem.W.mg_of X G a28, b28, f29, _, F29, PySem.W.mg_of X G a29, b29, f30, _, F30, PySem.W.mg_of X G a30, b30, f31, _, F31, PySem.W.mg_of X G a31, b31, f32, _, F32, PySem.W.mg_of X G a32, b32, f33, _, F33, PySem.W.mg_of X G a33, b33, f34, _, F34, PySem.W.mg_of X G a34, b34, f35, _, F35, PySem.W.mg_of X G a35, b35, f36, _, F36, PySem.W.mg_of X G a36, b36, f37, _, F37, PySem.W.mg_of X G a37, b37, f38, _, F38, PySem.W.mg_of X G a38, b38, f39, _, F39, PySem.W.mg_of X G a39, b39, f40, _, F40, PySem.W.mg_of X G a40, b40, f41, _, F41, PySem.W.mg_of X G a41, b41, f42, _, F42, PySem.W.mg_of X G a42, b42, f43, _, F43, PySem.W.mg_of X G a43, b43, f44, _, F44, PySem.W.mg_of X G a44, b44, f45, _, F45, PySem.W.mg_of X G a45, b45, f46, _, F46, PySem.W.mg_of X G a46, b46, f47, _, F47, PySem.W.mg_of X G a47, b47, f48, _, F48, PySem.W.mg_of X G a48, b48, f49, _, F49, PySem.W.mg_of X G a49, b49, f50, _, F50, PySem.W.mg_of X G a50, b50, fa, _, F51, PySem.W.mg_of X G a51, b51, PySem.W.mg_none_of X G z1, PySem.W.mg_none_of X G z2, PySem.W.mg_none_of X G z3, PySem.W.mg_none_of X G z4, PySem.W.mg_none_of X G z5, PySem.W.mg_none_of X G z6, PySem.W.mg_none_of X G z7, PySem.W.mg_none_of X G z8, PySem.W.mg_none_of X G z9, PySem.W.mg_none_of X G z10, PySem.W.mg_none_of X G z11, PySem.W.mg_none_of X G z12, PySem.W.mg_none_of X G z13, PySem.W.mg_none_of X G z14, PySem.W.mg_none_of X G z15, ZBand, PySem.W.mg_of X G yBand, ZBarred, PySem.W.mg_of X G yBarred, ZEvened, PySem.W.mg_of X G yEvened, ZSquared, PySem.W.mg_of X G ySquared, ZSummed, PySem.W.mg_of X G ySummed, ⟨⟨pgBand, hdBand, poBand, saBand⟩, caBand, ocd, oct, mrBand, meBand⟩, ⟨mkBand, a22, i22, kcBand⟩, ⟨a23, i23, k23⟩, naBandlows, naBandhighs, ⟨⟨pgBarred, hdBarred, poBarred, saBarred⟩, caBarred, ocd, oct, mrBarred, meBarred⟩, ⟨mkBarred, a24, i24, kcBarred⟩, ⟨a25, i25, k25⟩, naBarredfirst, naBarredsecond, ⟨⟨pgEvened, hdEvened, poEvened, saEvened⟩, caEvened, ocd, oct, mrEvened, meEvened⟩, ⟨mkEvened, a13, i13, kcEvened⟩, ⟨a14, i14, k14⟩, naEvenedrow, naEvenedfirst, naEvenedsecond, ⟨⟨pgSquared, hdSquared, poSquared, saSquared⟩, caSquared, ocd, oct, mrSquared, meSquared⟩, ⟨mkSquared, a18, i18, kcSquared⟩, ⟨a19, i19, k19⟩, naSquaredrow, ⟨⟨pgSummed, hdSummed, poSummed, saSummed⟩, caSummed, ocd, oct, mrSummed, meSummed⟩, ⟨mkSummed, a16, i16, kcSummed⟩, ⟨a17, i17, k17⟩, naSummedrow, naSummedpulls, cT, PT, tabI, TB, a28, isBandBarred, isBandEvened, isBandSquared, isBandSummed, isBarredBand, isBarredEvened, isBarredSquared, isBarredSummed, isEvenedBand, isEvenedBarred, isEvenedSquared, isEvenedSummed, isSquaredBand, isSquaredBarred, isSquaredEvened, isSquaredSummed, isSummedBand, isSummedBarred, isSummedEvened, isSummedSquared⟩ : Tx K mg base)⟩
end U
open PySem PySem.W PyProof.Rows
set_option maxHeartbeats 0 in
theorem PySem.Challenge.cw_uprow_k07_answers_by_hand_holds : PySem.Challenge.rw_uprow_k07_answers_by_hand.Holds := by
  w_on; o_law; k_head; (case hw => w_witness2)
  k_fill
  refine DL.walk_ofL (l := PySem.Challenge.rw_uprow_k07_answers_by_hand) (n := 63) (k := 6) (x := "_law_script") (CX := fun _ => L2.CX0) (sp := fun K => DL.spR K 1 U.R_law) rfl (by decide) rfl ⟨rfl, by decide, by decide⟩ (by decide +kernel) (fun w h Y => by first | exact PySem.W.km_in_of Y | exact PySem.W.kIn_of Y) ?F (DL.goes_ofL U.law_goes) (fun _ _ _ _ _ h => h)
  case F =>
    intro w mg fa h KX G hmg
    refine' U.all_mk KX G hmg ?yBand ?yBarred ?yEvened ?ySquared ?ySummed ?ocd ?oct ?pgBand ?hdBand ?poBand ?saBand ?mkBand ?kcBand ?caBand ?mrBand ?meBand ?naBandlows ?naBandhighs ?pgBarred ?hdBarred ?poBarred ?saBarred ?mkBarred ?kcBarred ?caBarred ?mrBarred ?meBarred ?naBarredfirst ?naBarredsecond ?pgEvened ?hdEvened ?poEvened ?saEvened ?mkEvened ?kcEvened ?caEvened ?mrEvened ?meEvened ?naEvenedrow ?naEvenedfirst ?naEvenedsecond ?pgSquared ?hdSquared ?poSquared ?saSquared ?mkSquared ?kcSquared ?caSquared ?mrSquared ?meSquared ?naSquaredrow ?pgSummed ?hdSummed ?poSummed ?saSummed ?mkSummed ?kcSummed ?caSummed ?mrSummed ?meSummed ?naSummedrow ?naSummedpulls ?isBandBarred ?isBandEvened ?isBandSquared ?isBandSummed ?isBarredBand ?isBarredEvened ?isBarredSquared ?isBarredSummed ?isEvenedBand ?isEvenedBarred ?isEvenedSquared ?isEvenedSummed ?isSquaredBand ?isSquaredBarred ?isSquaredEvened ?isSquaredSummed ?isSummedBand ?isSummedBarred ?isSummedEvened ?isSummedSquared ?a1 ?l1 ?c1 ?k1 ?a2 ?l2 ?c2 ?k2 ?a3 ?l3 ?c3 ?k3 ?a4 ?l4 ?c4 ?k4 ?a5 ?l5 ?c5 ?k5 ?a6 ?l6 ?c6 ?k6 ?a7 ?l7 ?c7 ?k7 ?a8 ?l8 ?c8 ?k8 ?a9 ?l9 ?c9 ?k9 ?a10 ?l10 ?c10 ?k10 ?a11 ?l11 ?c11 ?k11 ?a12 ?l12 ?c12 ?k12 ?a13 ?i13 ?l13 ?c13 ?k13 ?a14 ?i14 ?l14 ?c14 ?k14 ?a15 ?l15 ?c15 ?k15 ?a16 ?i16 ?l16 ?c16 ?k16 ?a17 ?i17 ?l17 ?c17 ?k17 ?a18 ?i18 ?l18 ?c18 ?k18 ?a19 ?i19 ?l19 ?c19 ?k19 ?a20 ?l20 ?c20 ?k20 ?a21 ?l21 ?c21 ?k21 ?a22 ?i22 ?l22 ?c22 ?k22 ?a23 ?i23 ?l23 ?c23 ?k23 ?a24 ?i24 ?l24 ?c24 ?k24 ?a25 ?i25 ?l25 ?c25 ?k25 ?a26 ?l26 ?c26 ?k26 ?a27 ?l27 ?c27 ?k27 ?a28 ?l28 ?c28 ?k28 ?a29 ?l29 ?c29 ?k29 ?a30 ?l30 ?c30 ?k30 ?a31 ?l31 ?c31 ?k31 ?a32 ?l32 ?c32 ?k32 ?a33 ?l33 ?c33 ?k33 ?a34 ?l34 ?c34 ?k34 ?a35 ?l35 ?c35 ?k35 ?a36 ?l36 ?c36 ?k36 ?a37 ?l37 ?c37 ?k37 ?a38 ?l38 ?c38 ?k38 ?a39 ?l39 ?c39 ?k39 ?a40 ?l40 ?c40 ?k40 ?a41 ?l41 ?c41 ?k41 ?a42 ?l42 ?c42 ?k42 ?a43 ?l43 ?c43 ?k43 ?a44 ?l44 ?c44 ?k44 ?a45 ?l45 ?c45 ?k45 ?a46 ?l46 ?c46 ?k46 ?a47 ?l47 ?c47 ?k47 ?a48 ?l48 ?c48 ?k48 ?a49 ?l49 ?c49 ?k49 ?a50 ?l50 ?c50 ?k50 ?a51 ?l51 ?c51 ?k51 ?z1 ?z2 ?z3 ?z4 ?z5 ?z6 ?z7 ?z8 ?z9 ?z10 ?z11 ?z12 ?z13 ?z14 ?z15 ?tabC ?tabL ?tabV ?tabN
    (case yBand => k_is)
    (case yBarred => k_is)
    (case yEvened => k_is)
    (case ySquared => k_is)
    (case ySummed => k_is)
    (case ocd => k_is)
    (case oct => k_is)
    (case pgBand => k_is)
    (case hdBand => k_is)
    (case poBand => k_is)
    (case saBand => k_is)
    (case mkBand => k_is)
    (case kcBand => k_is)
    (case caBand => k_is)
    (case mrBand => k_is)
    (case meBand => kit_is)
    (case naBandlows => k_is)
    (case naBandhighs => k_is)
    (case pgBarred => k_is)
    (case hdBarred => k_is)
    (case poBarred => k_is)
    (case saBarred => k_is)
    (case mkBarred => k_is)
    (case kcBarred => k_is)
    (case caBarred => k_is)
    (case mrBarred => k_is)
    (case meBarred => kit_is)
    (case naBarredfirst => k_is)
    (case naBarredsecond => k_is)
    (case pgEvened => k_is)
    (case hdEvened => k_is)
    (case poEvened => k_is)
    (case saEvened => k_is)
    (case mkEvened => k_is)
    (case kcEvened => k_is)
    (case caEvened => k_is)
    (case mrEvened => k_is)
    (case meEvened => kit_is)
    (case naEvenedrow => k_is)
    (case naEvenedfirst => k_is)
    (case naEvenedsecond => k_is)
    (case pgSquared => k_is)
    (case hdSquared => k_is)
    (case poSquared => k_is)
    (case saSquared => k_is)
    (case mkSquared => k_is)
    (case kcSquared => k_is)
    (case caSquared => k_is)
    (case mrSquared => k_is)
    (case meSquared => kit_is)
    (case naSquaredrow => k_is)
    (case pgSummed => k_is)
    (case hdSummed => k_is)
    (case poSummed => k_is)
    (case saSummed => k_is)
    (case mkSummed => k_is)
    (case kcSummed => k_is)
    (case caSummed => k_is)
    (case mrSummed => k_is)
    (case meSummed => kit_is)
    (case naSummedrow => k_is)
    (case naSummedpulls => k_is)
    (case isBandBarred => kit_is)
    (case isBandEvened => kit_is)
    (case isBandSquared => kit_is)
    (case isBandSummed => kit_is)
    (case isBarredBand => kit_is)
    (case isBarredEvened => kit_is)
    (case isBarredSquared => kit_is)
    (case isBarredSummed => kit_is)
    (case isEvenedBand => kit_is)
    (case isEvenedBarred => kit_is)
    (case isEvenedSquared => kit_is)
    (case isEvenedSummed => kit_is)
    (case isSquaredBand => kit_is)
    (case isSquaredBarred => kit_is)
    (case isSquaredEvened => kit_is)
    (case isSquaredSummed => kit_is)
    (case isSummedBand => kit_is)
    (case isSummedBarred => kit_is)
    (case isSummedEvened => kit_is)
    (case isSummedSquared => kit_is)
    (case a1 => k_is)
    (case l1 => k_is)
    (case c1 => k_is)
    (case k1 => k_is)
    (case a2 => k_is)
    (case l2 => k_is)
    (case c2 => k_is)
    (case k2 => k_is)
    (case a3 => k_is)
    (case l3 => k_is)
    (case c3 => k_is)
    (case k3 => k_is)
    (case a4 => k_is)
    (case l4 => k_is)
    (case c4 => k_is)
    (case k4 => k_is)
    (case a5 => k_is)
    (case l5 => k_is)
    (case c5 => k_is)
    (case k5 => k_is)
    (case a6 => k_is)
    (case l6 => k_is)
    (case c6 => k_is)
    (case k6 => k_is)
    (case a7 => k_is)
    (case l7 => k_is)
    (case c7 => k_is)
    (case k7 => k_is)
    (case a8 => k_is)
    (case l8 => k_is)
    (case c8 => k_is)
    (case k8 => k_is)
    (case a9 => k_is)
    (case l9 => k_is)
    (case c9 => k_is)
    (case k9 => k_is)
    (case a10 => k_is)
    (case l10 => k_is)
    (case c10 => k_is)
    (case k10 => k_is)
    (case a11 => k_is)
    (case l11 => k_is)
    (case c11 => k_is)
    (case k11 => k_is)
    (case a12 => k_is)
    (case l12 => k_is)
    (case c12 => k_is)
    (case k12 => k_is)
    (case a13 => k_is)
    (case i13 => k_is)
    (case l13 => k_is)
    (case c13 => k_is)
    (case k13 => k_is)
    (case a14 => k_is)
    (case i14 => k_is)
    (case l14 => k_is)
    (case c14 => k_is)
    (case k14 => k_is)
    (case a15 => k_is)
    (case l15 => k_is)
    (case c15 => k_is)
    (case k15 => k_is)
    (case a16 => k_is)
    (case i16 => k_is)
    (case l16 => k_is)
    (case c16 => k_is)
    (case k16 => k_is)
    (case a17 => k_is)
    (case i17 => k_is)
    (case l17 => k_is)
    (case c17 => k_is)
    (case k17 => k_is)
    (case a18 => k_is)
    (case i18 => k_is)
    (case l18 => k_is)
    (case c18 => k_is)
    (case k18 => k_is)
    (case a19 => k_is)
    (case i19 => k_is)
    (case l19 => k_is)
    (case c19 => k_is)
    (case k19 => k_is)
    (case a20 => k_is)
    (case l20 => k_is)
    (case c20 => k_is)
    (case k20 => k_is)
    (case a21 => k_is)
    (case l21 => k_is)
    (case c21 => k_is)
    (case k21 => k_is)
    (case a22 => k_is)
    (case i22 => k_is)
    (case l22 => k_is)
    (case c22 => k_is)
    (case k22 => k_is)
    (case a23 => k_is)
    (case i23 => k_is)
    (case l23 => k_is)
    (case c23 => k_is)
    (case k23 => k_is)
    (case a24 => k_is)
    (case i24 => k_is)
    (case l24 => k_is)
    (case c24 => k_is)
    (case k24 => k_is)
    (case a25 => k_is)
    (case i25 => k_is)
    (case l25 => k_is)
    (case c25 => k_is)
    (case k25 => k_is)
    (case a26 => k_is)
    (case l26 => k_is)
    (case c26 => k_is)
    (case k26 => k_is)
    (case a27 => k_is)
    (case l27 => k_is)
    (case c27 => k_is)
    (case k27 => k_is)
    (case a28 => k_is)
    (case l28 => k_is)
    (case c28 => k_is)
    (case k28 => k_is)
    (case a29 => k_is)
    (case l29 => k_is)
    (case c29 => k_is)
    (case k29 => k_is)
    (case a30 => k_is)
    (case l30 => k_is)
    (case c30 => k_is)
    (case k30 => k_is)
    (case a31 => k_is)
    (case l31 => k_is)
    (case c31 => k_is)
    (case k31 => k_is)
    (case a32 => k_is)
    (case l32 => k_is)
    (case c32 => k_is)
    (case k32 => k_is)
    (case a33 => k_is)
    (case l33 => k_is)
    (case c33 => k_is)
    (case k33 => k_is)
    (case a34 => k_is)
    (case l34 => k_is)
    (case c34 => k_is)
    (case k34 => k_is)
    (case a35 => k_is)
    (case l35 => k_is)
    (case c35 => k_is)
    (case k35 => k_is)
    (case a36 => k_is)
    (case l36 => k_is)
    (case c36 => k_is)
    (case k36 => k_is)
    (case a37 => k_is)
    (case l37 => k_is)
    (case c37 => k_is)
    (case k37 => k_is)
    (case a38 => k_is)
    (case l38 => k_is)
    (case c38 => k_is)
    (case k38 => k_is)
    (case a39 => k_is)
    (case l39 => k_is)
    (case c39 => k_is)
    (case k39 => k_is)
    (case a40 => k_is)
    (case l40 => k_is)
    (case c40 => k_is)
    (case k40 => k_is)
    (case a41 => k_is)
    (case l41 => k_is)
    (case c41 => k_is)
    (case k41 => k_is)
    (case a42 => k_is)
    (case l42 => k_is)
    (case c42 => k_is)
    (case k42 => k_is)
    (case a43 => k_is)
    (case l43 => k_is)
    (case c43 => k_is)
    (case k43 => k_is)
    (case a44 => k_is)
    (case l44 => k_is)
    (case c44 => k_is)
    (case k44 => k_is)
    (case a45 => k_is)
    (case l45 => k_is)
    (case c45 => k_is)
    (case k45 => k_is)
    (case a46 => k_is)
    (case l46 => k_is)
    (case c46 => k_is)
    (case k46 => k_is)
    (case a47 => k_is)
    (case l47 => k_is)
    (case c47 => k_is)
    (case k47 => k_is)
    (case a48 => k_is)
    (case l48 => k_is)
    (case c48 => k_is)
    (case k48 => k_is)
    (case a49 => k_is)
    (case l49 => k_is)
    (case c49 => k_is)
    (case k49 => k_is)
    (case a50 => k_is)
    (case l50 => k_is)
    (case c50 => k_is)
    (case k50 => k_is)
    (case a51 => k_is)
    (case l51 => k_is)
    (case c51 => k_is)
    (case k51 => k_is)
    (case z1 => k_is)
    (case z2 => k_is)
    (case z3 => k_is)
    (case z4 => k_is)
    (case z5 => k_is)
    (case z6 => k_is)
    (case z7 => k_is)
    (case z8 => k_is)
    (case z9 => k_is)
    (case z10 => k_is)
    (case z11 => k_is)
    (case z12 => k_is)
    (case z13 => k_is)
    (case z14 => k_is)
    (case z15 => k_is)
    (case tabC => exact rfl)
    (case tabL => k_is)
    (case tabV => exact rfl)
    (case tabN => first | k_is | exact rfl | decide +kernel)
