import PyProof.Rows.All
import Wide.All
import OpenK.AllK
import Wide.FinOn
import KE.RegKIsAll
import HandS.ForMost
import HandS.Wide
import HandS.IsInst
import HandS.Style
import HandS.SortInts
import HandS.SortKw
import HandS.Walk
import HandS.Lambda
import KE.KNest
import HandS.Call
import PyProof.ConsumeS
import KE.KMinKey
import HandS.Codes
import HandS.ExcCtx
import HandS.ExcIs
import HandS.WordsExc
import HandS.HotCalls
import HandS.CallLocal
import HandS.Exc
import HandS.ExcOwn
import KE.SortKeyHeap
import KE.KLam
import HandS.EndBits
import HandS.EndTab
import PySem.Challenge.RW_uprow_k08_refused
set_option Elab.async false
set_option linter.all false
set_option maxRecDepth 100000
set_option maxHeartbeats 4000000
/-! DA: plain data for the values of a program, heaps out of sight. -/
namespace DL
open PySem PySem.Spec PyProof.Rows L2
variable {K : PySem.W.Frag}

/-! ## data -/
inductive D where
  | non | bl (b : Bool) | int (i : Int) | str (z : Str) | lst (ds : List D) | tup (ds : List D) | dct | ins (C : Addr) (fs : List (Str × D)) | ty (n : String) | cls (C : Addr) | op (v : V)

/-- a list that is read: tracked, locked, or an object of the written part as lists are made -/
def LsX (K : PySem.W.Frag) (G : Hp) (a : Addr) (vs : List V) : Prop := Rd G a (.lst vs) ∨ ∃ (its : Array Value) (n : Nat), K.lookup a = some { cls := .type "list", data := .seq its n } ∧ its.size ≤ sizeLine ∧ Vals vs its.toList
theorem LsX.of {G : Hp} {a : Addr} {vs : List V} (h : G a = some (.lst vs)) : LsX K G a vs := .inl (.inl h)
theorem LsX.sq {G : Hp} {a : Addr} {vs : List V} (h : LsX K G a vs) : SqL K G a vs := by
  rcases h with h | ⟨its, n, h1, h2, h3⟩
  · exact .inl h
  · exact .inr ⟨_, its, n, h1, rfl, rfl, rfl, h2, h3⟩
mutual
/-- the value is that data, as far as the heap G tells -/
inductive Rep (K : PySem.W.Frag) (G : Hp) : V → D → Prop
  | non : Rep K G .non .non
  | bl (b : Bool) : Rep K G (.bl b) (.bl b)
  | int (i : Int) : Rep K G (.int i) (.int i)
  | str (z : Str) : Rep K G (.str z) (.str z)
  | lst {a : Addr} {vs : List V} {ds : List D} : LsX K G a vs → RepA K G vs ds → Rep K G (.ref a) (.lst ds)
  | tup {a : Addr} {vs : List V} {ds : List D} : Rd G a (.tup vs) → RepA K G vs ds → Rep K G (.ref a) (.tup ds)
  | ty (n : String) : Rep K G (.ty n) (.ty n)
  | cls (C : Addr) : Rep K G (.ref C) (.cls C)
  | op (v : V) : Rep K G v (.op v)
  | dct {a : Addr} : G a = some (.dK []) → Rep K G (.ref a) .dct
  | ins {a C dx : Addr} {fs : List (Str × V)} {ds : List (Str × D)} : G a = some (.ins C dx fs) → RepF K G fs ds → Rep K G (.ref a) (.ins C ds)
inductive RepA (K : PySem.W.Frag) (G : Hp) : List V → List D → Prop
  | nil : RepA K G [] []
  | cons {v : V} {vs : List V} {d : D} {ds : List D} : Rep K G v d → RepA K G vs ds → RepA K G (v :: vs) (d :: ds)
inductive RepF (K : PySem.W.Frag) (G : Hp) : List (Str × V) → List (Str × D) → Prop
  | nil : RepF K G [] []
  | cons {f : Str} {v : V} {vs : List (Str × V)} {d : D} {ds : List (Str × D)} : Rep K G v d → RepF K G vs ds → RepF K G ((f, v) :: vs) ((f, d) :: ds)
end

/-! ## what of a heap is kept: all but the tables of code objects, which grow -/
def Pl : HO → Prop
  | .tbl _ => False
  | .ext _ => False
  | _ => True
/-- the table of the def median: the code object of its lambda bears this name -/
def qMed : Str := "median.<locals>.<lambda>"
def KpO (G H : Hp) (b : Addr) : HO → Prop
  | .tbl _ => (∃ ps, H b = some (.tbl ps)) ∧ (LamX.TabS G b qMed → LamX.TabS H b qMed)
  | o => H b = some o
def Same (G H : Hp) : Prop := ∀ b o, G b = some o → KpO G H b o
section
variable {G H J : Hp} {b p : Addr} {o : HO} {q : Str}
theorem Same.get (e : Same G H) (ho : ∀ ps, o ≠ .tbl ps) (h : G b = some o) : H b = some o := by
  have k := e b o h
  cases o <;> first | exact k | exact (ho _ rfl).elim
theorem Same.ex (e : Same G H) (h : G b = some o) : H b ≠ none := by
  have k := e b o h
  cases o with
  | tbl ps =>
    obtain ⟨⟨ps', h'⟩, _⟩ := k
    rw [h']
    exact fun z => by cases z
  | _ =>
    rw [show H b = some _ from k]
    exact fun z => by cases z
theorem Same.refl (G : Hp) : Same G G := fun b o h => by
  cases o <;> first | exact ⟨⟨_, h⟩, fun t => t⟩ | exact h
theorem Same.of (h : ∀ b o, G b = some o → H b = some o) : Same G H := fun b o e => by
  cases o <;> first | exact ⟨⟨_, h b _ e⟩, fun t => t.ext h⟩ | exact h b _ e
theorem Same.trans (e1 : Same G H) (e2 : Same H J) : Same G J := fun b o h => by
  have k := e1 b o h
  cases o with
  | tbl ps =>
    obtain ⟨⟨ps', h'⟩, t1⟩ := k
    obtain ⟨h2, t2⟩ := e2 b _ h'
    exact ⟨h2, fun t => t2 (t1 t)⟩
  | _ => exact e2 b _ k
theorem Same.free (e : Same G H) (h : H b = none) : G b = none := by
  cases hg : G b with
  | none => rfl
  | some o => exact (e.ex hg h).elim
theorem Same.tab (e : Same G H) (t : LamX.TabS G b qMed) : LamX.TabS H b qMed := by
  obtain ⟨ps, h, _⟩ := id t
  exact (e b _ h).2 t
theorem tab_upd (t : LamX.TabS H b q) (hb : b ≠ p) (hp : ∀ u, H p = some u → Pl u) : LamX.TabS (upd H p o) b q := by
  obtain ⟨ps, h1, h2, h3⟩ := t
  refine ⟨ps, by rw [upd_ne hb]; exact h1, h2, fun pos cv hc => ?_⟩
  obtain ⟨c, e1, e2⟩ := h3 pos cv hc
  refine ⟨c, e1, ?_⟩
  rw [upd_ne fun z => by
    rw [z] at e2
    exact (hp _ e2).elim]
  exact e2
theorem tab_back (t : LamX.TabS (upd H p o) b q) (hb : b ≠ p) (ho : Pl o) : LamX.TabS H b q := by
  obtain ⟨ps, h1, h2, h3⟩ := t
  rw [upd_ne hb] at h1
  refine ⟨ps, h1, h2, fun pos cv hc => ?_⟩
  obtain ⟨c, e1, e2⟩ := h3 pos cv hc
  refine ⟨c, e1, ?_⟩
  rw [upd_ne fun z => by
    rw [z, upd_same] at e2
    cases e2
    exact ho.elim] at e2
  exact e2
theorem Same.upd (e : Same G H) (h : G p = none) (hp : ∀ u, H p = some u → Pl u) : Same G (upd H p o) := fun b u hg => by
  have hb : b ≠ p := ne_of_none hg h
  have k := e b u hg
  cases u with
  | tbl ps =>
    obtain ⟨⟨ps', h'⟩, t⟩ := k
    exact ⟨⟨ps', by rw [upd_ne hb]; exact h'⟩, fun tq => tab_upd (t tq) hb hp⟩
  | _ =>
    show L2.upd H p o b = _
    rw [upd_ne hb]
    exact k
end
def TabsK (K : PySem.W.Frag) (G : Hp) : Prop := ∀ c P, PySem.W.tabIn K "median" = some (c, P) → LamX.TabS G P qMed
theorem TabsK.mono {G G' : Hp} (t : TabsK K G) (e : Same G G') : TabsK K G' := fun c P h => e.tab (t c P h)

theorem rd_same {G G' : Hp} {a : Addr} {u : HO} (e : Same G G') (h : Rd G a u) (hu : ∀ ps, u ≠ .tbl ps := by intro ps z; cases z) : Rd G' a u := by
  rcases h with h | ⟨o, h⟩
  · exact Or.inl (e.get hu h)
  · exact Or.inr ⟨o, e _ _ h⟩

theorem ls_same {G G' : Hp} {a : Addr} {vs : List V} (e : Same G G') (h : LsX K G a vs) : LsX K G' a vs := by
  rcases h with h | h
  · exact .inl (rd_same e h)
  · exact .inr h
mutual
theorem Rep.mono {G G' : Hp} (e : Same G G') : ∀ {v : V} {d : D}, Rep K G v d → Rep K G' v d
  | _, _, .non => .non
  | _, _, .bl b => .bl b
  | _, _, .int i => .int i
  | _, _, .str z => .str z
  | _, _, .lst h r => .lst (ls_same e h) (RepA.mono e r)
  | _, _, .tup h r => .tup (rd_same e h) (RepA.mono e r)
  | _, _, .ty n => .ty n
  | _, _, .cls C => .cls C
  | _, _, .op v => .op v
  | _, _, .dct h => .dct (e _ _ h)
  | _, _, .ins h r => .ins (e _ _ h) (RepF.mono e r)
theorem RepA.mono {G G' : Hp} (e : Same G G') : ∀ {vs : List V} {ds : List D}, RepA K G vs ds → RepA K G' vs ds
  | _, _, .nil => .nil
  | _, _, .cons h r => .cons (Rep.mono e h) (RepA.mono e r)
theorem RepF.mono {G G' : Hp} (e : Same G G') : ∀ {vs : List (Str × V)} {ds : List (Str × D)}, RepF K G vs ds → RepF K G' vs ds
  | _, _, .nil => .nil
  | _, _, .cons h r => .cons (Rep.mono e h) (RepF.mono e r)
end

section
variable {G : Hp}
theorem RepA.len : ∀ {vs : List V} {ds : List D}, RepA K G vs ds → vs.length = ds.length
  | _, _, .nil => rfl
  | _, _, .cons _ r => congrArg (· + 1) (RepA.len r)
theorem RepA.at : ∀ {vs : List V} {ds : List D} {i : Nat} {d : D}, RepA K G vs ds → ds[i]? = some d → ∃ v, vs[i]? = some v ∧ Rep K G v d
  | _, _, _, _, .nil, h => by simp at h
  | _, _, 0, _, .cons r _, h => by simp at h; subst h; exact ⟨_, rfl, r⟩
  | _, _, i + 1, d, .cons _ r, h => by
    obtain ⟨v, h1, h2⟩ := RepA.at (i := i) (d := d) r (by simpa using h)
    exact ⟨v, by simpa using h1, h2⟩
theorem RepA.of_at : ∀ {vs : List V} {ds : List D} {i : Nat} {v : V}, RepA K G vs ds → vs[i]? = some v → ∃ d, ds[i]? = some d ∧ Rep K G v d
  | _, _, _, _, .nil, h => by simp at h
  | _, _, 0, _, .cons r _, h => by simp at h; subst h; exact ⟨_, rfl, r⟩
  | _, _, i + 1, v, .cons _ r, h => by
    obtain ⟨d, h1, h2⟩ := RepA.of_at (i := i) (v := v) r (by simpa using h)
    exact ⟨d, by simpa using h1, h2⟩
theorem RepA.app : ∀ {vs ws : List V} {ds es : List D}, RepA K G vs ds → RepA K G ws es → RepA K G (vs ++ ws) (ds ++ es)
  | _, _, _, _, .nil, r => r
  | _, _, _, _, .cons h t, r => .cons h (RepA.app t r)
theorem RepA.take : ∀ {vs : List V} {ds : List D} (n : Nat), RepA K G vs ds → RepA K G (vs.take n) (ds.take n)
  | _, _, 0, _ => .nil
  | _, _, _ + 1, .nil => .nil
  | _, _, n + 1, .cons h t => .cons h (RepA.take n t)
theorem RepA.drop : ∀ {vs : List V} {ds : List D} (n : Nat), RepA K G vs ds → RepA K G (vs.drop n) (ds.drop n)
  | _, _, 0, r => r
  | _, _, _ + 1, .nil => .nil
  | _, _, n + 1, .cons _ t => RepA.drop n t
theorem RepA.set {v : V} {d : D} (h : Rep K G v d) : ∀ {vs : List V} {ds : List D} (n : Nat), RepA K G vs ds → RepA K G (vs.set n v) (ds.set n d)
  | _, _, _, .nil => .nil
  | _, _, 0, .cons _ t => .cons h t
  | _, _, n + 1, .cons q t => .cons q (RepA.set h n t)
theorem RepA.rev : ∀ {vs : List V} {ds : List D}, RepA K G vs ds → RepA K G vs.reverse ds.reverse
  | _, _, .nil => .nil
  | _, _, .cons h t => by
    rw [List.reverse_cons, List.reverse_cons]
    exact (RepA.rev t).app (.cons h .nil)
theorem RepA.dropLast : ∀ {vs : List V} {ds : List D}, RepA K G vs ds → RepA K G vs.dropLast ds.dropLast
  | _, _, .nil => .nil
  | _, _, .cons h .nil => .nil
  | _, _, .cons h (.cons h2 t) => .cons h (RepA.dropLast (.cons h2 t))
theorem RepA.rep {v : V} {d : D} (h : Rep K G v d) : ∀ n : Nat, RepA K G (List.replicate n v) (List.replicate n d)
  | 0 => .nil
  | n + 1 => .cons h (RepA.rep h n)
theorem RepA.reps {vs : List V} {ds : List D} (h : RepA K G vs ds) : ∀ n : Nat, RepA K G (List.replicate n vs).flatten (List.replicate n ds).flatten
  | 0 => .nil
  | n + 1 => by
    rw [List.replicate_succ, List.replicate_succ, List.flatten_cons, List.flatten_cons]
    exact h.app (RepA.reps h n)
theorem RepA.flat2 : ∀ {vss : List (List V)} {dss : List (List D)}, Paired (RepA K G) vss dss → RepA K G vss.flatten dss.flatten
  | _, _, .nil => .nil
  | _, _, .cons h t => h.app (RepA.flat2 t)
/-- whole numbers, truths: what the values are -/
abbrev dI (ns : List Int) : List D := ns.map D.int
abbrev dB (bs : List Bool) : List D := bs.map D.bl
theorem RepA.dI_inv : ∀ {ns : List Int} {vs : List V}, RepA K G vs (dI ns) → vs = ns.map V.int
  | [], _, h => by cases h; rfl
  | n :: r, _, h => by
    cases h with
    | cons a b =>
      cases a
      rw [RepA.dI_inv (ns := r) b]
      rfl
theorem RepA.dB_inv : ∀ {bs : List Bool} {vs : List V}, RepA K G vs (dB bs) → vs = bs.map V.bl
  | [], _, h => by cases h; rfl
  | n :: r, _, h => by
    cases h with
    | cons a b =>
      cases a
      rw [RepA.dB_inv (bs := r) b]
      rfl
theorem RepA.dI_mk (G : Hp) : ∀ ns : List Int, RepA K G (ns.map V.int) (dI ns)
  | [] => .nil
  | n :: r => .cons (.int n) (RepA.dI_mk G r)
/-- data that no heap tells -/
def flat : D → Bool
  | .non | .bl _ | .int _ | .str _ | .ty _ | .cls _ | .op _ => true
  | _ => false
theorem Rep.flat {G' : Hp} {v : V} {d : D} (h : Rep K G v d) (e : flat d = true) : Rep K G' v d := by
  cases h with
  | non => exact .non
  | bl b => exact .bl b
  | int i => exact .int i
  | str z => exact .str z
  | lst _ _ => cases e
  | tup _ _ => cases e
  | ty n => exact .ty n
  | cls C => exact .cls C
  | op v => exact .op v
  | dct _ => cases e
  | ins _ _ => cases e
end

/-! ## growing -/
/-- G the steady part of H: both grow, and what was unsteady stays so -/
structure Grow (G H G' H' : Hp) : Prop where
  g : Same G G'
  i : Same G' H'
  h : Same H H'
  u : ∀ a, G a = none → H a ≠ none → G' a = none
theorem Grow.refl {G H : Hp} (e : Same G H) : Grow G H G H := ⟨Same.refl G, e, Same.refl H, fun _ h _ => h⟩
theorem Grow.trans {G H G1 H1 G2 H2 : Hp} (a : Grow G H G1 H1) (b : Grow G1 H1 G2 H2) : Grow G H G2 H2 :=
  ⟨a.g.trans b.g, b.i, a.h.trans b.h, fun x h1 h2 => b.u x (a.u x h1 h2) fun z => h2 (a.h.free z)⟩
theorem same_new {G : Hp} {p : Addr} {o : HO} (h : G p = none) : Same G (upd G p o) := Same.of fun b u e => by
  rw [upd_ne (ne_of_none e h)]
  exact e
theorem none_back {G H : Hp} {p : Addr} (e : Same G H) (h : H p = none) : G p = none := e.free h
theorem same_upd2 {G H : Hp} {p : Addr} {o : HO} (e : Same G H) (hH : H p = none) (ho : Pl o) : Same (upd G p o) (upd H p o) := fun b u h => by
  by_cases hb : b = p
  · rw [hb, upd_same] at h
    cases h
    rw [hb]
    cases o <;> first | exact ho.elim | exact upd_same
  · rw [upd_ne hb] at h
    have k := e b u h
    cases u with
    | tbl ps =>
      obtain ⟨⟨ps', h'⟩, t⟩ := k
      exact ⟨⟨ps', by rw [upd_ne hb]; exact h'⟩, fun tq => tab_upd (t (tab_back tq hb ho)) hb fun u hu => by rw [hH] at hu; cases hu⟩
    | _ =>
      show L2.upd H p o b = _
      rw [upd_ne hb]
      exact k
theorem Grow.new {G H : Hp} {p : Addr} {o : HO} (e : Same G H) (h : H p = none) (ho : Pl o := by trivial) : Grow G H (upd G p o) (upd H p o) :=
  ⟨same_new (none_back e h), same_upd2 e h ho, same_new h, fun a h1 h2 => by
    rw [upd_ne (fun z => h2 (by rw [z]; exact h))]
    exact h1⟩

/-! ## slots -/
/-- a part of a thing of one's own: data that stands still, or a list of one's own -/
inductive Ch where
  | st (d : D) | ow (ds : List D)
def Ch.d : Ch → D
  | .st d => d
  | .ow ds => .lst ds
/-- what is known of a slot: nothing, data, a list of one's own (nobody else holds it), a list or an object of one's own with parts -/
inductive B where
  | no | im (d : D) | ow (ds : List D) | ol (cs : List Ch) | oo (t : Option Addr) (C : Addr) (fs : List (Str × Ch))
def chF (fs : List (Str × Ch)) : List (Str × D) := fs.map fun p => (p.1, p.2.d)
def B.d : B → D
  | .no => .non
  | .im d => d
  | .ow ds => .lst ds
  | .ol cs => .lst (cs.map Ch.d)
  | .oo _ C fs => .ins C (chF fs)
structure Sl (K : PySem.W.Frag) (G : Hp) (σ : L2.St) (Γ : List B) : Prop where
  im : ∀ (i : Nat) (d : D), Γ[i]? = some (.im d) → ∃ v, σ[i]? = some (some v) ∧ Rep K G v d
  len : σ.length = Γ.length
  tb : TabsK K G
def wipeB (Γ : List B) : List Nat → List B
  | [] => Γ
  | v :: vs => (wipeB Γ vs).set v .no
section
variable {G G' H H' : Hp} {σ : L2.St} {Γ : List B}
theorem Sl.mono (e : Same G G') (s : Sl K G σ Γ) : Sl K G' σ Γ := ⟨fun i d h => by
  obtain ⟨v, h1, h2⟩ := s.im i d h
  exact ⟨v, h1, h2.mono e⟩, s.len, s.tb.mono e⟩
theorem Sl.set {v : V} {d : D} (s : Sl K G σ Γ) (i : Nat) (h : Rep K G v d) : Sl K G (σ.set i (some v)) (Γ.set i (.im d)) := ⟨fun j e hj => by
  have hlen : j < Γ.length := by
    have q := (List.getElem?_eq_some_iff.mp hj).1
    rwa [List.length_set] at q
  by_cases hij : i = j
  · subst hij
    rw [List.getElem?_set_self hlen] at hj
    cases hj
    exact ⟨v, by rw [List.getElem?_set_self (by rw [s.len]; exact hlen)], h⟩
  · rw [List.getElem?_set_ne hij] at hj
    obtain ⟨w, h1, h2⟩ := s.im j e hj
    exact ⟨w, by rw [List.getElem?_set_ne hij]; exact h1, h2⟩, by rw [List.length_set, List.length_set]; exact s.len, s.tb⟩
theorem Sl.clear (s : Sl K G σ Γ) (i : Nat) : Sl K G (σ.set i none) (Γ.set i .no) := ⟨fun j e hj => by
  have hlen : j < Γ.length := by
    have q := (List.getElem?_eq_some_iff.mp hj).1
    rwa [List.length_set] at q
  by_cases hij : i = j
  · subst hij
    rw [List.getElem?_set_self hlen] at hj
    cases hj
  · rw [List.getElem?_set_ne hij] at hj
    obtain ⟨w, h1, h2⟩ := s.im j e hj
    exact ⟨w, by rw [List.getElem?_set_ne hij]; exact h1, h2⟩, by rw [List.length_set, List.length_set]; exact s.len, s.tb⟩
theorem Sl.wipe (s : Sl K G σ Γ) : ∀ vs : List Nat, Sl K G (L2.wipe σ vs) (wipeB Γ vs)
  | [] => s
  | v :: vs => (Sl.wipe s vs).clear v
end

/-! ## what evaluates to what -/
section
def DE (K : PySem.W.Frag) (t : TE) (Γ : List B) (d : D) : Prop := ∀ (σ : L2.St) (G H : Hp), Same G H → Sl K G σ Γ → ∀ Q : VK, (∀ v G' H', Grow G H G' H' → Rep K G' v d → Q v H') → t σ H Q
def DT (K : PySem.W.Frag) (t : TT) (Γ : List B) (b : Bool) : Prop := ∀ (σ : L2.St) (G H : Hp), Same G H → Sl K G σ Γ → ∀ Q : Bool → Hp → Prop, (∀ G' H', Grow G H G' H' → Q b H') → t σ H Q
def DAr (K : PySem.W.Frag) (t : TA) (Γ : List B) (ds : List D) : Prop := ∀ (σ : L2.St) (G H : Hp), Same G H → Sl K G σ Γ → ∀ Q : List V → Hp → Prop, (∀ vs G' H', Grow G H G' H' → RepA K G' vs ds → Q vs H') → t σ H Q
def DO (K : PySem.W.Frag) (t : TO) (Γ : List B) (o : Option Int) : Prop := ∀ (σ : L2.St) (G H : Hp), Same G H → Sl K G σ Γ → ∀ Q : Option Int → Hp → Prop, (∀ G' H', Grow G H G' H' → Q o H') → t σ H Q
/-- operations on data -/
def R1D (K : PySem.W.Frag) (r : V → Hp → VK → Prop) (d f : D) : Prop := ∀ (x : V) (G H : Hp), Same G H → Rep K G x d → ∀ Q : VK, (∀ v G' H', Grow G H G' H' → Rep K G' v f → Q v H') → r x H Q
def R2D (K : PySem.W.Frag) (r : R2) (d e f : D) : Prop := ∀ (x y : V) (G H : Hp), Same G H → Rep K G x d → Rep K G y e → ∀ Q : VK, (∀ v G' H', Grow G H G' H' → Rep K G' v f → Q v H') → r x y H Q
def RCD (K : PySem.W.Frag) (r : List V → Hp → VK → Prop) (ds : List D) (f : D) : Prop := ∀ (vs : List V) (G H : Hp), Same G H → RepA K G vs ds → ∀ Q : VK, (∀ v G' H', Grow G H G' H' → Rep K G' v f → Q v H') → r vs H Q
/-- what is walked -/
structure WalkD (K : PySem.W.Frag) (J : It) (ds : List D) (G' : Hp) : Prop where
  w : ∃ Y : Nat → Hp → V → Hp → Prop, Walk J ds.length (fun H => Same G' H) Y ∧
    ∀ (i : Nat) (G2 H : Hp) (x : V) (H' : Hp) (d : D), Same G' G2 → Same G2 H → Y i H x H' → ds[i]? = some d → ∃ G3, Grow G2 H G3 H' ∧ Rep K G3 x d
def DI (K : PySem.W.Frag) (t : TI) (Γ : List B) (ds : List D) : Prop := ∀ (σ : L2.St) (G H : Hp), Same G H → Sl K G σ Γ → ∀ R : It → Hp → Prop, (∀ J G' H', Grow G H G' H' → WalkD K J ds G' → R J H') → t σ H R
/-- a target: which slots it sets, what of them is known behind -/
def DG (K : PySem.W.Frag) (g : TG) (ok : Nat → Prop) (d : D) (Γ Γ' : List B) : Prop := ∀ (x : V) (G H : Hp) (σ : L2.St) (Q : L2.St → Hp → Prop) (I : L2.St → List B → Prop), Same G H → Rep K G x d →
  (∀ σ Γ i v d, ok i → Rep K G v d → I σ Γ → I (σ.set i (some v)) (Γ.set i (.im d))) → I σ Γ → (∀ σ', I σ' Γ' → Q σ' H) → g x σ H Q
def DGs (K : PySem.W.Frag) (g : TGs) (ok : Nat → Prop) (ds : List D) (Γ Γ' : List B) : Prop := ∀ (xs : List V) (G H : Hp) (σ : L2.St) (Q : L2.St → Hp → Prop) (I : L2.St → List B → Prop), Same G H → RepA K G xs ds →
  (∀ σ Γ i v d, ok i → Rep K G v d → I σ Γ → I (σ.set i (some v)) (Γ.set i (.im d))) → I σ Γ → (∀ σ', I σ' Γ' → Q σ' H) → g xs σ H Q
end
section
variable {σ : L2.St} {Γ Γ' Γ2 : List B} {ta tb tc te : TE} {t u : TT} {a b c d e f : D} {ds es : List D} {r : R2}
theorem de_var {i : Nat} (h : Γ[i]? = some (.im d)) : DE K (tVar i) Γ d := fun σ G H e s Q q => by
  obtain ⟨v, h1, h2⟩ := s.im i d h
  exact ⟨v, h1, q v G H (Grow.refl e) h2⟩
theorem de_c {v : V} (h : ∀ G, Rep K G v d) : DE K (tC v) Γ d := fun σ G H e s Q q => q v G H (Grow.refl e) (h G)
theorem de_int {i : Int} : DE K (tC (.int i)) Γ (.int i) := de_c fun _ => .int i
theorem de_bl {i : Bool} : DE K (tC (.bl i)) Γ (.bl i) := de_c fun _ => .bl i
theorem de_non : DE K (tC .non) Γ .non := de_c fun _ => .non
theorem de_str {z : Str} : DE K (tC (.str z)) Γ (.str z) := de_c fun _ => .str z
theorem de_is (h : DE K te Γ d) (e : d = f) : DE K te Γ f := e ▸ h
theorem dt_is {x y : Bool} (h : DT K t Γ x) (e : x = y) : DT K t Γ y := e ▸ h
theorem de_op (ha : DE K ta Γ a) (hb : DE K tb Γ b) (hr : R2D K r a b f) : DE K (tOp r ta tb) Γ f := fun σ G H e s Q q =>
  ha σ G H e s _ fun x G1 H1 g1 r1 => hb σ G1 H1 g1.i (s.mono g1.g) _ fun y G2 H2 g2 r2 =>
    hr x y G2 H2 g2.i (r1.mono g2.g) r2 Q fun v G3 H3 g3 r3 => q v G3 H3 ((g1.trans g2).trans g3) r3
theorem de_un {r : V → Hp → VK → Prop} (ha : DE K ta Γ a) (hr : R1D K r a f) : DE K (tUn r ta) Γ f := fun σ G H e s Q q =>
  ha σ G H e s _ fun x G1 H1 g1 r1 => hr x G1 H1 g1.i r1 Q fun v G3 H3 g3 r3 => q v G3 H3 (g1.trans g3) r3
theorem da_nil : DAr K tNil Γ [] := fun σ G H e s Q q => q [] G H (Grow.refl e) .nil
theorem da_cons {tr : TA} (ha : DE K ta Γ a) (hr : DAr K tr Γ ds) : DAr K (tCons ta tr) Γ (a :: ds) := fun σ G H e s Q q =>
  ha σ G H e s _ fun x G1 H1 g1 r1 => hr σ G1 H1 g1.i (s.mono g1.g) _ fun xs G2 H2 g2 r2 => q (x :: xs) G2 H2 (g1.trans g2) (.cons (r1.mono g2.g) r2)
theorem de_cb {r : List V → Hp → VK → Prop} {tr : TA} (ha : DAr K tr Γ ds) (hr : RCD K r ds f) : DE K (tCB r tr) Γ f := fun σ G H e s Q q =>
  ha σ G H e s _ fun xs G1 H1 g1 r1 => hr xs G1 H1 g1.i r1 Q fun v G3 H3 g3 r3 => q v G3 H3 (g1.trans g3) r3
theorem de_tup {tr : TA} (ha : DAr K tr Γ ds) (hl : ds.length ≤ 1000) : DE K (tTup tr) Γ (.tup ds) := fun σ G H e s Q q =>
  ha σ G H e s _ fun xs G1 H1 g1 r1 => ⟨by rw [r1.len]; exact Nat.le_trans hl (by decide), fun p hp =>
    q (.ref p) _ _ (g1.trans (Grow.new g1.i hp)) (.tup (Rd.of upd_same) (r1.mono (same_new (none_back g1.i hp))))⟩
theorem de_lst {tr : TA} (ha : DAr K tr Γ ds) (hl : ds.length ≤ 1000) : DE K (tLst tr) Γ (.lst ds) := fun σ G H e s Q q =>
  ha σ G H e s _ fun xs G1 H1 g1 r1 => ⟨by rw [r1.len]; exact Nat.le_trans hl (by decide), fun p hp =>
    q (.ref p) _ _ (g1.trans (Grow.new g1.i hp)) (.lst (LsX.of upd_same) (r1.mono (same_new (none_back g1.i hp))))⟩
theorem de_if {x : Bool} (h : DT K t Γ x) (h1 : x = true → DE K ta Γ d) (h2 : x = false → DE K tb Γ d) : DE K (tIf t ta tb) Γ d := fun σ G H e s Q q =>
  h σ G H e s _ fun G1 H1 g1 => by
    cases x with
    | true => exact h1 rfl σ G1 H1 g1.i (s.mono g1.g) Q fun v G2 H2 g2 r => q v G2 H2 (g1.trans g2) r
    | false => exact h2 rfl σ G1 H1 g1.i (s.mono g1.g) Q fun v G2 H2 g2 r => q v G2 H2 (g1.trans g2) r
theorem de_andV {x y : Bool} (h1 : DE K ta Γ (.bl x)) (h2 : x = true → DE K tb Γ (.bl y)) : DE K (tAndV ta tb) Γ (.bl (x && y)) := fun σ G H e s Q q =>
  h1 σ G H e s _ fun v G1 H1 g1 r1 => by
    cases r1
    refine ⟨x, rfl, ?_⟩
    cases x with
    | true => exact h2 rfl σ G1 H1 g1.i (s.mono g1.g) Q fun v G2 H2 g2 r => q v G2 H2 (g1.trans g2) r
    | false => exact q _ G1 H1 g1 (.bl false)
theorem de_orV {x y : Bool} (h1 : DE K ta Γ (.bl x)) (h2 : x = false → DE K tb Γ (.bl y)) : DE K (tOrV ta tb) Γ (.bl (x || y)) := fun σ G H e s Q q =>
  h1 σ G H e s _ fun v G1 H1 g1 r1 => by
    cases r1
    refine ⟨x, rfl, ?_⟩
    cases x with
    | true => exact q _ G1 H1 g1 (.bl true)
    | false => exact h2 rfl σ G1 H1 g1.i (s.mono g1.g) Q fun v G2 H2 g2 r => q v G2 H2 (g1.trans g2) r
theorem de_notV {x : Bool} (h1 : DE K ta Γ (.bl x)) : DE K (tNotV ta) Γ (.bl (!x)) := fun σ G H e s Q q =>
  h1 σ G H e s _ fun v G1 H1 g1 r1 => by
    cases r1
    exact ⟨x, rfl, q _ G1 H1 g1 (.bl _)⟩
theorem dt_test {x : Bool} (h : DE K te Γ (.bl x)) : DT K (tTest te) Γ x := fun σ G H e s Q q => h σ G H e s _ fun v G1 H1 g1 r1 => by
  cases r1
  exact ⟨x, rfl, q G1 H1 g1⟩
theorem dt_B {x : Bool} (h : DE K te Γ (.bl x)) : DT K (tB te) Γ x := fun σ G H e s Q q => h σ G H e s _ fun v G1 H1 g1 r1 => by
  cases r1
  exact ⟨x, rfl, q G1 H1 g1⟩
theorem dt_yes : DT K tYes Γ true := fun σ G H e s Q q => q G H (Grow.refl e)
theorem dt_and {x y : Bool} (h1 : DT K t Γ x) (h2 : x = true → DT K u Γ y) : DT K (tAnd t u) Γ (x && y) := fun σ G H e s Q q =>
  h1 σ G H e s _ fun G1 H1 g1 => by
    cases x with
    | true => exact h2 rfl σ G1 H1 g1.i (s.mono g1.g) Q fun G2 H2 g2 => q G2 H2 (g1.trans g2)
    | false => exact q G1 H1 g1
theorem dt_or {x y : Bool} (h1 : DT K t Γ x) (h2 : x = false → DT K u Γ y) : DT K (tOr t u) Γ (x || y) := fun σ G H e s Q q =>
  h1 σ G H e s _ fun G1 H1 g1 => by
    cases x with
    | true => exact q G1 H1 g1
    | false => exact h2 rfl σ G1 H1 g1.i (s.mono g1.g) Q fun G2 H2 g2 => q G2 H2 (g1.trans g2)
theorem dt_not {x : Bool} (h1 : DT K t Γ x) : DT K (tNot t) Γ (!x) := fun σ G H e s Q q => h1 σ G H e s _ fun G1 H1 g1 => q G1 H1 g1
theorem do_none : DO K tNoPart Γ none := fun σ G H e s Q q => q G H (Grow.refl e)
theorem do_some {i : Int} (h : DE K te Γ (.int i)) : DO K (tPart te) Γ (some i) := fun σ G H e s Q q => h σ G H e s _ fun v G1 H1 g1 r1 => by
  cases r1
  exact ⟨i, rfl, q G1 H1 g1⟩
/-- two comparisons in a row -/
theorem de_chain {r r' : R2} {x y : Bool} (ha : DE K ta Γ a) (hb : DE K tb Γ b) (hr : R2D K r a b (.bl x)) (hc : x = true → DE K tc Γ c) (hr' : x = true → R2D K r' b c (.bl y)) : DE K (tChain r r' ta tb tc) Γ (.bl (x && y)) := fun σ G H e s Q q =>
  ha σ G H e s _ fun v G1 H1 g1 r1 => hb σ G1 H1 g1.i (s.mono g1.g) _ fun w G2 H2 g2 r2 =>
    hr v w G2 H2 g2.i (r1.mono g2.g) r2 _ fun z G3 H3 g3 r3 => by
      cases r3
      refine ⟨x, rfl, ?_⟩
      cases x with
      | true =>
        exact hc rfl σ G3 H3 g3.i (s.mono ((g1.trans g2).trans g3).g) _ fun z G4 H4 g4 r4 => hr' rfl w z G4 H4 g4.i (r2.mono (g3.trans g4).g) r4 Q fun v' G5 H5 g5 r5 =>
          q v' G5 H5 ((((g1.trans g2).trans g3).trans g4).trans g5) r5
      | false => exact q _ G3 H3 ((g1.trans g2).trans g3) (.bl false)

/-! ## targets -/
theorem dg_name {ok : Nat → Prop} (i : Nat) (hi : ok i) : DG K (gName i) ok d Γ (Γ.set i (.im d)) := fun x G H σ Q I e r cl h q => q _ (cl σ Γ i x d hi r h)
theorem dg_nil {ok : Nat → Prop} : DGs K gNil ok [] Γ Γ := fun xs G H σ Q I e r cl h q => by
  cases r
  exact ⟨rfl, q σ h⟩
theorem dg_cons {ok : Nat → Prop} {g : TG} {gs : TGs} (h1 : DG K g ok d Γ Γ') (h2 : DGs K gs ok ds Γ' Γ2) : DGs K (gCons g gs) ok (d :: ds) Γ Γ2 := fun xs G H σ Q I e r cl h q => by
  cases r with
  | cons r1 r2 =>
    refine ⟨_, _, rfl, ?_⟩
    exact h1 _ G H σ _ I e r1 cl h fun σ' h' => h2 _ G H σ' Q I e r2 cl h' q
theorem dg_tup {ok : Nat → Prop} {gs : TGs} {n : Nat} (h : DGs K gs ok ds Γ Γ') (hn : ds.length = n) : DG K (gTup K n gs) ok (.tup ds) Γ Γ' := fun x G H σ Q I e r cl h0 q => by
  cases r with
  | tup hs ra => exact ⟨_, _, rfl, Or.inl (rd_same e hs), ra.len.trans hn, h _ G H σ Q I e ra cl h0 q⟩
end
end DL

/-! DB: walks, comprehensions, statements, calls over plain data. -/
namespace DL
open PySem PySem.Spec PyProof.Rows L2
variable {K : PySem.W.Frag}

theorem Grow.add {G H G' H' : Hp} {p : Addr} {o : HO} (g : Grow G H G' H') (h : H p = none) (h1 : G' p = none) (h2 : H' p = some o) (ho : Pl o := by trivial) : Grow G H (upd G' p o) H' :=
  ⟨g.g.trans (same_new h1), fun b u e => by
    by_cases hb : b = p
    · rw [hb, upd_same] at e
      cases e
      rw [hb]
      cases o <;> first | exact ho.elim | exact h2
    · rw [upd_ne hb] at e
      have k := g.i b u e
      cases u with
      | tbl ps =>
        obtain ⟨h', t⟩ := k
        exact ⟨h', fun tq => t (tab_back tq hb ho)⟩
      | _ => exact k, g.h, fun a a1 a2 => by
    rw [upd_ne (fun z => a2 (by rw [z]; exact h))]
    exact g.u a a1 a2⟩
/-- an object apart is changed -/
theorem Grow.mut {G H G' H' : Hp} {p : Addr} {o : HO} (g : Grow G H G' H') (h : H p = none) (h1 : G' p = none) (hp : ∀ u, H' p = some u → Pl u) : Grow G H G' (upd H' p o) :=
  ⟨g.g, g.i.upd h1 hp, g.h.upd h hp, g.u⟩

/-! ## what is walked -/
section
variable {σ : L2.St} {Γ Γ' : List B} {te : TE} {ta : TA} {ds es : List D}
theorem walk_at {vs : List V} {G1 G2 H H' : Hp} {x : V} {i : Nat} {d : D} (r : RepA K G1 vs ds) (e1 : Same G1 G2) (e2 : Same G2 H) (y : YAt vs i H x H') (hd : ds[i]? = some d) : ∃ G3, Grow G2 H G3 H' ∧ Rep K G3 x d := by
  obtain ⟨rfl, hx⟩ := y
  obtain ⟨v, h1, h2⟩ := r.at hd
  rw [h1] at hx
  cases hx
  exact ⟨G2, Grow.refl e2, h2.mono e1⟩
theorem di_list (h : DE K te Γ (.lst ds)) : DI K (iList K te) Γ ds := fun σ G H e s R q => h σ G H e s _ fun v G1 H1 g1 r1 => by
  cases r1 with
  | @lst a vs _ hs ra =>
    refine ⟨a, rfl, ⟨vs, (ls_same g1.i hs).sq⟩, q _ G1 H1 g1 ⟨YAt vs, ?_, fun i G2 H x H' d e1 e2 y hd => walk_at ra e1 e2 y hd⟩⟩
    rw [← ra.len]
    exact walk_list.mono (fun H' h' => (ls_same h' hs).sq) fun _ _ _ _ _ _ y => y
theorem di_tup (h : DE K te Γ (.tup ds)) : DI K (iTup K te) Γ ds := fun σ G H e s R q => h σ G H e s _ fun v G1 H1 g1 r1 => by
  cases r1 with
  | @tup a vs _ hs ra =>
    refine ⟨a, rfl, ⟨vs, Or.inl (rd_same g1.i hs)⟩, q _ G1 H1 g1 ⟨YAt vs, ?_, fun i G2 H x H' d e1 e2 y hd => walk_at ra e1 e2 y hd⟩⟩
    rw [← ra.len]
    exact walk_tup.mono (fun H' h' => Or.inl (rd_same h' hs)) fun _ _ _ _ _ _ y => y
theorem di_rng1 {n : Nat} (h : DAr K ta Γ [.int (n : Int)]) (hn : n ≤ 1000000) : DI K (iRng1 ta) Γ ((List.range n).map fun i : Nat => D.int (i : Int)) := fun σ G H e s R q => h σ G H e s _ fun vs G1 H1 g1 r1 => by
  cases r1 with
  | cons a b =>
    cases a
    cases b
    refine ⟨(n : Int), rfl, by omega, by omega, q _ G1 H1 g1 ⟨YFn (fun i => .int (0 + (i : Int))), ?_, fun i G2 H x H' d e1 e2 y hd => ?_⟩⟩
    · rw [List.length_map, List.length_range]
      exact walk_range.mono (fun _ _ => trivial) fun _ _ _ _ _ _ y => y
    · obtain ⟨rfl, rfl⟩ := y
      rw [List.getElem?_map] at hd
      by_cases hi : i < n
      · rw [List.getElem?_range hi] at hd
        cases hd
        refine ⟨G2, Grow.refl e2, ?_⟩
        show Rep K G2 (V.int (0 + (i : Int))) (D.int (i : Int))
        rw [Int.zero_add]
        exact .int _
      · rw [List.getElem?_eq_none (by rw [List.length_range]; omega)] at hd
        cases hd
theorem di_rng2 {lo hi : Int} (h : DAr K ta Γ [.int lo, .int hi]) (h1 : -1000000 ≤ lo ∧ lo ≤ 1000000 ∧ -1000000 ≤ hi ∧ hi ≤ 1000000) : DI K (iRng2 ta) Γ ((List.range (hi - lo).toNat).map fun i : Nat => D.int (lo + (i : Int))) := fun σ G H e s R q => h σ G H e s _ fun vs G1 H1 g1 r1 => by
  cases r1 with
  | cons a b =>
    cases a
    cases b with
    | cons a b =>
      cases a
      cases b
      refine ⟨lo, hi, rfl, ⟨by omega, by omega, by omega, by omega⟩, q _ G1 H1 g1 ⟨YFn (fun i => .int (lo + (i : Int))), ?_, fun i G2 H x H' d e1 e2 y hd => ?_⟩⟩
      · rw [List.length_map, List.length_range]
        exact walk_range.mono (fun _ _ => trivial) fun _ _ _ _ _ _ y => y
      · obtain ⟨rfl, rfl⟩ := y
        rw [List.getElem?_map] at hd
        by_cases hi' : i < (hi - lo).toNat
        · rw [List.getElem?_range hi'] at hd
          cases hd
          exact ⟨G2, Grow.refl e2, .int _⟩
        · rw [List.getElem?_eq_none (by rw [List.length_range]; omega)] at hd
          cases hd
theorem pair_grow {G2 H H' : Hp} {xs ys : Nat → Option V} {i : Nat} {x : V} {a b : D} (e2 : Same G2 H) (y : YPair xs ys i H x H') (hx : ∀ v, xs i = some v → Rep K G2 v a) (hy : ∀ v, ys i = some v → Rep K G2 v b) : ∃ G3, Grow G2 H G3 H' ∧ Rep K G3 x (.tup [a, b]) := by
  obtain ⟨T, v, u, rfl, hT, rfl, h1, h2⟩ := y
  have hn := same_new (o := .tup [v, u]) (none_back e2 hT)
  exact ⟨_, Grow.new e2 hT, .tup (Rd.of upd_same) (.cons ((hx v h1).mono hn) (.cons ((hy u h2).mono hn) .nil))⟩
/-- the places and what stands there -/
def numbered : Nat → List D → List D
  | _, [] => []
  | n, d :: r => .tup [.int (n : Int), d] :: numbered (n + 1) r
theorem numbered_len : ∀ (ds : List D) (n : Nat), (numbered n ds).length = ds.length
  | [], _ => rfl
  | _ :: r, n => congrArg (· + 1) (numbered_len r (n + 1))
theorem numbered_at : ∀ (ds : List D) (n i : Nat), (numbered n ds)[i]? = (ds[i]?).map fun d => .tup [.int ((n + i : Nat) : Int), d]
  | [], _, _ => by simp [numbered]
  | _ :: r, n, 0 => by simp [numbered]
  | _ :: r, n, i + 1 => by
    show (numbered (n + 1) r)[i]? = _
    rw [numbered_at r (n + 1) i]
    have e : n + 1 + i = n + (i + 1) := by omega
    rw [e]
    rfl
theorem di_enum (h : DAr K ta Γ [.lst ds]) : DI K (iEnum K ta) Γ (numbered 0 ds) := fun σ G H e s R q => h σ G H e s _ fun vs G1 H1 g1 r1 => by
  cases r1 with
  | cons a b =>
    cases b
    cases a with
    | @lst a vs _ hs ra =>
      refine ⟨a, vs, rfl, (ls_same g1.i hs).sq, q _ G1 H1 g1 ⟨YPair (fun i => some (.int (i : Nat))) (fun i => vs[i]?), ?_, fun i G2 H x H' d e1 e2 y hd => ?_⟩⟩
      · rw [numbered_len, ← ra.len]
        exact walk_enum.mono (fun H' h' => (ls_same h' hs).sq) fun _ _ _ _ _ _ y => y
      · rw [numbered_at] at hd
        cases e : ds[i]? with
        | none =>
          rw [e] at hd
          cases hd
        | some z =>
          rw [e] at hd
          cases hd
          rw [Nat.zero_add]
          refine pair_grow e2 y (fun v hv => ?_) fun v hv => ?_
          · cases hv
            exact .int _
          · obtain ⟨w, h1, h2⟩ := ra.at e
            rw [h1] at hv
            cases hv
            exact h2.mono e1
def zipD : List D → List D → List D
  | a :: r, b :: t => .tup [a, b] :: zipD r t
  | _, _ => []
theorem zipD_len : ∀ ds es : List D, (zipD ds es).length = min ds.length es.length
  | [], [] => rfl
  | [], _ :: _ => by simp [zipD]
  | _ :: _, [] => by simp [zipD]
  | _ :: r, _ :: t => by simp only [zipD, List.length_cons, zipD_len r t]; omega
theorem zipD_at : ∀ (ds es : List D) (i : Nat) (d : D), (zipD ds es)[i]? = some d → ∃ a b, ds[i]? = some a ∧ es[i]? = some b ∧ d = .tup [a, b]
  | [], [], i, d, h => by simp [zipD] at h
  | [], _ :: _, i, d, h => by simp [zipD] at h
  | _ :: _, [], i, d, h => by simp [zipD] at h
  | a :: r, b :: t, 0, d, h => by simp [zipD] at h; exact ⟨a, b, rfl, rfl, h.symm⟩
  | a :: r, b :: t, i + 1, d, h => by
    obtain ⟨x, y, h1, h2, h3⟩ := zipD_at r t i d (by simpa [zipD] using h)
    exact ⟨x, y, by simpa using h1, by simpa using h2, h3⟩
theorem di_zip (h : DAr K ta Γ [.lst ds, .lst es]) : DI K (iZip K ta) Γ (zipD ds es) := fun σ G H e s R q => h σ G H e s _ fun vs G1 H1 g1 r1 => by
  cases r1 with
  | cons a b =>
    cases b with
    | cons b c =>
      cases c
      cases a with
      | @lst a vs _ hs ra =>
        cases b with
        | @lst b ws _ ht rb =>
          refine ⟨a, b, vs, ws, rfl, (ls_same g1.i hs).sq, (ls_same g1.i ht).sq, q _ G1 H1 g1 ⟨YPair (fun i => vs[i]?) (fun i => ws[i]?), ?_, fun i G2 H x H' d e1 e2 y hd => ?_⟩⟩
          · exact (walk_zip (by rw [zipD_len, ra.len, rb.len])).mono (fun H' h' => ⟨(ls_same h' hs).sq, (ls_same h' ht).sq⟩) fun _ _ _ _ _ _ y => y
          · obtain ⟨a, b, h1, h2, rfl⟩ := zipD_at _ _ _ _ hd
            refine pair_grow e2 y (fun v hv => ?_) fun v hv => ?_
            · obtain ⟨w, h3, h4⟩ := ra.at h1
              rw [h3] at hv
              cases hv
              exact h4.mono e1
            · obtain ⟨w, h3, h4⟩ := rb.at h2
              rw [h3] at hv
              cases hv
              exact h4.mono e1
theorem di_rev (h : DAr K ta Γ [.lst ds]) : DI K (iRev K ta) Γ ds.reverse := fun σ G H e s R q => h σ G H e s _ fun vs G1 H1 g1 r1 => by
  cases r1 with
  | cons a b =>
    cases b
    cases a with
    | @lst a vs _ hs ra =>
      refine ⟨a, vs, rfl, (ls_same g1.i hs).sq, q _ G1 H1 g1 ⟨fun i H x H' => H' = H ∧ vs[vs.length - 1 - i]? = some x, ?_, fun i G2 H x H' d e1 e2 y hd => ?_⟩⟩
      · rw [List.length_reverse, ← ra.len]
        exact walk_rev.mono (fun H' h' => (ls_same h' hs).sq) fun _ _ _ _ _ _ y => y
      · obtain ⟨rfl, hx⟩ := y
        have hi : i < ds.length := by
          have q := (List.getElem?_eq_some_iff.mp hd).1
          rwa [List.length_reverse] at q
        rw [List.getElem?_reverse hi] at hd
        obtain ⟨v, h1, h2⟩ := ra.at hd
        rw [ra.len, h1] at hx
        cases hx
        exact ⟨G2, Grow.refl e2, h2.mono e1⟩
end

/-! ## comprehensions -/
theorem wipe_wipe (σ : L2.St) : ∀ vs : List Nat, L2.wipe (L2.wipe σ vs) vs = L2.wipe σ vs := fun vs => by
  apply List.ext_getElem?
  intro i
  by_cases hi : i ∈ vs
  · have h0 : ∀ (τ : L2.St) (ws : List Nat), i ∈ ws → (L2.wipe τ ws)[i]? = if i < τ.length then some none else none := fun τ ws => by
      induction ws with
      | nil => intro h; cases h
      | cons v ws ih =>
        intro h
        show ((L2.wipe τ ws).set v none)[i]? = _
        by_cases hv : v = i
        · subst hv
          rw [List.getElem?_set, if_pos rfl, wipe_length]
        · rw [List.getElem?_set_ne hv]
          exact ih (by cases h with
            | head => exact absurd rfl hv
            | tail _ h => exact h)
    rw [h0 _ _ hi, h0 _ _ hi, wipe_length]
  · rw [wipe_out hi]
theorem wipe_set {σ : L2.St} {i : Nat} {x : Option V} : ∀ {vs : List Nat}, i ∈ vs → L2.wipe (σ.set i x) vs = L2.wipe σ vs := fun {vs} h => by
  apply List.ext_getElem?
  intro j
  induction vs with
  | nil => cases h
  | cons v ws ih =>
    show ((L2.wipe (σ.set i x) ws).set v none)[j]? = ((L2.wipe σ ws).set v none)[j]?
    by_cases hv : v = j
    · subst hv
      rw [List.getElem?_set, List.getElem?_set, wipe_length, wipe_length, List.length_set, if_pos rfl, if_pos rfl]
    · rw [List.getElem?_set_ne hv, List.getElem?_set_ne hv]
      by_cases hw : i ∈ ws
      · exact ih hw
      · have hiv : i = v := by
          cases h with
          | head => rfl
          | tail _ h => exact absurd h hw
        subst hiv
        by_cases hj : j ∈ ws
        · clear ih
          have aux : ∀ us : List Nat, j ∈ us → (L2.wipe (σ.set i x) us)[j]? = (L2.wipe σ us)[j]? := fun us => by
            induction us with
            | nil => intro h; cases h
            | cons u us ih2 =>
              intro hm
              show ((L2.wipe (σ.set i x) us).set u none)[j]? = ((L2.wipe σ us).set u none)[j]?
              by_cases hu : u = j
              · subst hu
                rw [List.getElem?_set, List.getElem?_set, wipe_length, wipe_length, List.length_set, if_pos rfl, if_pos rfl]
              · rw [List.getElem?_set_ne hu, List.getElem?_set_ne hu]
                exact ih2 (by cases hm with
                  | head => exact absurd rfl hu
                  | tail _ h => exact h)
          exact aux ws hj
        · rw [wipe_out hj, wipe_out hj, List.getElem?_set_ne hv]
section
variable {Γ : List B} {wi : TI} {g : TG} {tt : TT} {te : TE} {vs : List Nat} {α : Type}
theorem take_more {xs : List α} {i : Nat} {x : α} (h : xs[i]? = some x) : xs.take (i + 1) = xs.take i ++ [x] := by
  rw [List.take_add_one, h]
  rfl
theorem de_lcF {xs : List α} {enc : α → D} (f : α → D) (p : α → Bool) (hi : DI K wi Γ (xs.map enc)) (hn : xs.length ≤ 100000)
    (h : ∀ x ∈ xs, ∃ Γ', DG K g (· ∈ vs) (enc x) (wipeB Γ vs) Γ' ∧ DT K tt Γ' (p x) ∧ (p x = true → DE K te Γ' (f x))) : DE K (tLc wi g tt te vs) Γ (.lst ((xs.filter p).map f)) := fun σ G H e s Q q =>
  hi σ G H e s _ fun J G1 H1 g1 W => by
    obtain ⟨Y, w, y⟩ := W.w
    intro Dl hD
    refine lc_it w (fun i H' => ∃ G' acc, Grow G1 H1 G' H' ∧ G' Dl = none ∧ H' Dl = some (.lst acc) ∧ RepA K G' acc (((xs.take i).filter p).map f))
      ⟨G1, [], ⟨Same.refl _, g1.i.trans (same_new hD), same_new hD, fun _ h _ => h⟩, none_back g1.i hD, upd_same, .nil⟩ (fun i H' _ ⟨G', acc, g2, _⟩ => g2.g.trans g2.i) ?_ ?_
    · rintro i x H2 H3 hlt ⟨G', acc, g2, n2, h2, r2⟩ hy
      have hlt' : i < xs.length := by rwa [List.length_map] at hlt
      have hx : xs[i]? = some xs[i] := List.getElem?_eq_getElem hlt'
      obtain ⟨G3, g3, r3⟩ := y i G' H2 x H3 (enc xs[i]) g2.g g2.i hy (by rw [List.getElem?_map, hx]; rfl)
      have n3 : G3 Dl = none := g3.u Dl n2 (by rw [h2]; exact fun z => by cases z)
      have h3 : H3 Dl = some (.lst acc) := g3.h Dl _ h2
      obtain ⟨Γ', hg, ht, he⟩ := h xs[i] (List.getElem_mem hlt')
      refine hg x G3 H3 (L2.wipe σ vs) _ (fun σ' Γ'' => Sl K G3 σ' Γ'' ∧ L2.wipe σ' vs = L2.wipe σ vs) g3.i r3 (fun σ' Γ'' j v d hj rv I => ⟨I.1.set j rv, by rw [wipe_set hj]; exact I.2⟩)
        ⟨(s.mono ((g1.trans g2).trans g3).g).wipe vs, wipe_wipe σ vs⟩ fun σ2 I2 => ⟨by rw [I2.2], ?_⟩
      refine ht σ2 G3 H3 g3.i I2.1 _ fun G4 H4 g4 => ?_
      have n4 : G4 Dl = none := g4.u Dl n3 (by rw [h3]; exact fun z => by cases z)
      have h4 : H4 Dl = some (.lst acc) := g4.h Dl _ h3
      cases hp : p xs[i] with
      | false =>
        rw [if_neg Bool.false_ne_true]
        refine ⟨G4, acc, (g2.trans g3).trans g4, n4, h4, ?_⟩
        rw [take_more hx, List.filter_append, List.filter_cons, if_neg (by rw [hp]; exact Bool.false_ne_true), List.filter_nil, List.append_nil]
        exact r2.mono (g3.trans g4).g
      | true =>
        rw [if_pos rfl]
        refine he hp σ2 G4 H4 g4.i (I2.1.mono g4.g) _ fun v G5 H5 g5 r5 => ?_
        have n5 : G5 Dl = none := g5.u Dl n4 (by rw [h4]; exact fun z => by cases z)
        refine ⟨acc, g5.h Dl _ h4, ?_, G5, acc ++ [v], (((g2.trans g3).trans g4).trans g5).mut hD n5 (fun u hu => by rw [g5.h Dl _ h4] at hu; cases hu; trivial), n5, upd_same, ?_⟩
        · rw [r2.len, List.length_map]
          refine Nat.lt_of_le_of_lt (List.length_filter_le _ _) ?_
          rw [List.length_take]
          have : (100001 : Nat) ≤ sizeLine := by decide
          omega
        · rw [take_more hx, List.filter_append, List.map_append, List.filter_cons, if_pos hp]
          exact (r2.mono ((g3.trans g4).trans g5).g).app (.cons r5 .nil)
    · rintro H2 ⟨G', acc, g2, n2, h2, r2⟩
      rw [List.length_map, List.take_length] at r2
      refine q _ _ _ (g1.trans (g2.add hD n2 h2)) (.lst (LsX.of upd_same) (r2.mono (same_new n2)))
theorem de_lc {xs : List α} {enc : α → D} (f : α → D) (hi : DI K wi Γ (xs.map enc)) (hn : xs.length ≤ 100000)
    (h : ∀ x ∈ xs, ∃ Γ', DG K g (· ∈ vs) (enc x) (wipeB Γ vs) Γ' ∧ DE K te Γ' (f x)) : DE K (tLc wi g tYes te vs) Γ (.lst (xs.map f)) := by
  have q := de_lcF (wi := wi) (g := g) (tt := tYes) (te := te) (vs := vs) f (fun _ => true) hi hn fun x hx => by
    obtain ⟨Γ', h1, h2⟩ := h x hx
    exact ⟨Γ', h1, dt_yes, fun _ => h2⟩
  rwa [List.filter_eq_self.mpr fun _ _ => rfl] at q
theorem de_lcI {xs : List α} {enc : α → D} (f : α → Int) (hi : DI K wi Γ (xs.map enc)) (hn : xs.length ≤ 100000)
    (h : ∀ x ∈ xs, ∃ Γ', DG K g (· ∈ vs) (enc x) (wipeB Γ vs) Γ' ∧ DE K te Γ' (.int (f x))) : DE K (tLc wi g tYes te vs) Γ (.lst (dI (xs.map f))) := by
  have q := de_lc (fun x => D.int (f x)) hi hn h
  rwa [show xs.map (fun x => D.int (f x)) = dI (xs.map f) from (List.map_map).symm] at q
theorem de_lcB {xs : List α} {enc : α → D} (f : α → Bool) (hi : DI K wi Γ (xs.map enc)) (hn : xs.length ≤ 100000)
    (h : ∀ x ∈ xs, ∃ Γ', DG K g (· ∈ vs) (enc x) (wipeB Γ vs) Γ' ∧ DE K te Γ' (.bl (f x))) : DE K (tLc wi g tYes te vs) Γ (.lst (dB (xs.map f))) := by
  have q := de_lc (fun x => D.bl (f x)) hi hn h
  rwa [show xs.map (fun x => D.bl (f x)) = dB (xs.map f) from (List.map_map).symm] at q
theorem de_lcIF {xs : List α} {enc : α → D} (f : α → Int) (p : α → Bool) (hi : DI K wi Γ (xs.map enc)) (hn : xs.length ≤ 100000)
    (h : ∀ x ∈ xs, ∃ Γ', DG K g (· ∈ vs) (enc x) (wipeB Γ vs) Γ' ∧ DT K tt Γ' (p x) ∧ (p x = true → DE K te Γ' (.int (f x)))) : DE K (tLc wi g tt te vs) Γ (.lst (dI ((xs.filter p).map f))) := by
  have q := de_lcF (fun x => D.int (f x)) p hi hn h
  rwa [show (xs.filter p).map (fun x => D.int (f x)) = dI ((xs.filter p).map f) from (List.map_map).symm] at q
end
end DL

/-! DC: statements and calls over plain data; lists and objects of one's own. -/
namespace DL
open PySem PySem.Spec PyProof.Rows L2
variable {K : PySem.W.Frag}

/-! ## what is one's own, by its cells -/
inductive OwnC (K : PySem.W.Frag) (G H : Hp) : V → Ch → List Addr → Prop
  | st {v : V} {d : D} : Rep K G v d → OwnC K G H v (.st d) []
  | ow {l : Addr} {vs : List V} {ds : List D} : H l = some (.lst vs) → RepA K G vs ds → OwnC K G H (.ref l) (.ow ds) [l]
inductive OwnL (K : PySem.W.Frag) (G H : Hp) : List V → List Ch → List Addr → Prop
  | nil : OwnL K G H [] [] []
  | cons {v : V} {vs : List V} {c : Ch} {cs : List Ch} {as bs : List Addr} : OwnC K G H v c as → OwnL K G H vs cs bs → OwnL K G H (v :: vs) (c :: cs) (as ++ bs)
inductive OwnF (K : PySem.W.Frag) (G H : Hp) : List (Str × V) → List (Str × Ch) → List Addr → Prop
  | nil : OwnF K G H [] [] []
  | cons {f : Str} {v : V} {vs : List (Str × V)} {c : Ch} {cs : List (Str × Ch)} {as bs : List Addr} : OwnC K G H v c as → OwnF K G H vs cs bs → OwnF K G H ((f, v) :: vs) ((f, c) :: cs) (as ++ bs)
inductive Own (K : PySem.W.Frag) (G H : Hp) : V → B → List Addr → Prop
  | im {v : V} {d : D} : Rep K G v d → Own K G H v (.im d) []
  | ow {l : Addr} {vs : List V} {ds : List D} : H l = some (.lst vs) → RepA K G vs ds → Own K G H (.ref l) (.ow ds) [l]
  | ol {l : Addr} {vs : List V} {cs : List Ch} {as : List Addr} : H l = some (.lst vs) → OwnL K G H vs cs as → Own K G H (.ref l) (.ol cs) (l :: as)
  | oo {p C dx : Addr} {t : Option Addr} {vs : List (Str × V)} {fs : List (Str × Ch)} {as : List Addr} : (∀ q, t = some q → q = p) → H p = some (.ins C dx vs) → OwnF K G H vs fs as → Own K G H (.ref p) (.oo t C fs) (p :: as)
/-- the heaps agree on these cells -/
def Agree (H H' : Hp) (as : List Addr) : Prop := ∀ a ∈ as, ∀ o, Pl o → H a = some o → H' a = some o
theorem Agree.left {H H' : Hp} {as bs : List Addr} (h : Agree H H' (as ++ bs)) : Agree H H' as := fun a m => h a (List.mem_append_left _ m)
theorem Agree.right {H H' : Hp} {as bs : List Addr} (h : Agree H H' (as ++ bs)) : Agree H H' bs := fun a m => h a (List.mem_append_right _ m)
theorem Agree.tail {H H' : Hp} {a : Addr} {as : List Addr} (h : Agree H H' (a :: as)) : Agree H H' as := fun b m => h b (List.mem_cons_of_mem _ m)
theorem Pl.nt {o : HO} (h : Pl o) : ∀ ps, o ≠ .tbl ps := fun ps z => by
  rw [z] at h
  exact h.elim
theorem Agree.of {H H' : Hp} {as : List Addr} (h : Same H H') : Agree H H' as := fun a _ o p e => h.get p.nt e
/-- a plain cell stands there -/
def PlA (H : Hp) (a : Addr) : Prop := ∃ u, H a = some u ∧ Pl u
theorem PlA.ne {H : Hp} {a : Addr} (h : PlA H a) (z : H a = none) : False := by
  obtain ⟨u, h, _⟩ := h
  rw [h] at z
  cases z
theorem PlA.mono {H H' : Hp} {a : Addr} (h : PlA H a) (e : Same H H') : PlA H' a := by
  obtain ⟨u, h1, h2⟩ := h
  exact ⟨u, e.get h2.nt h1, h2⟩
theorem PlA.pl {H : Hp} {a : Addr} (h : PlA H a) : ∀ u, H a = some u → Pl u := fun u hu => by
  obtain ⟨u', h1, h2⟩ := h
  rw [h1] at hu
  cases hu
  exact h2
theorem Agree.upd {H : Hp} {as : List Addr} {l : Addr} {o : HO} (h : ¬ l ∈ as) : Agree H (upd H l o) as := fun a m o' _ e => by
  rw [upd_ne (fun z => h (by rw [← z]; exact m))]
  exact e
section
variable {G H G' H' : Hp} (eg : Same G G')
theorem OwnC.mono {v : V} {c : Ch} {as : List Addr} (o : OwnC K G H v c as) (eg : Same G G') (ag : Agree H H' as) : OwnC K G' H' v c as := by
  cases o with
  | st r => exact .st (r.mono eg)
  | ow h r => exact .ow (ag _ List.mem_cons_self _ trivial h) (r.mono eg)
theorem OwnL.mono : ∀ {vs : List V} {cs : List Ch} {as : List Addr}, OwnL K G H vs cs as → Same G G' → Agree H H' as → OwnL K G' H' vs cs as
  | _, _, _, .nil, _, _ => .nil
  | _, _, _, .cons o r, eg, ag => .cons (o.mono eg ag.left) (OwnL.mono r eg ag.right)
theorem OwnF.mono : ∀ {vs : List (Str × V)} {cs : List (Str × Ch)} {as : List Addr}, OwnF K G H vs cs as → Same G G' → Agree H H' as → OwnF K G' H' vs cs as
  | _, _, _, .nil, _, _ => .nil
  | _, _, _, .cons o r, eg, ag => .cons (o.mono eg ag.left) (OwnF.mono r eg ag.right)
theorem Own.mono {v : V} {b : B} {as : List Addr} (o : Own K G H v b as) (eg : Same G G') (ag : Agree H H' as) : Own K G' H' v b as := by
  cases o with
  | im r => exact .im (r.mono eg)
  | ow h r => exact .ow (ag _ List.mem_cons_self _ trivial h) (r.mono eg)
  | ol h r => exact .ol (ag _ List.mem_cons_self _ trivial h) (r.mono eg ag.tail)
  | oo t h r => exact .oo t (ag _ List.mem_cons_self _ trivial h) (r.mono eg ag.tail)
theorem OwnC.ex {v : V} {c : Ch} {as : List Addr} (o : OwnC K G H v c as) : ∀ a ∈ as, PlA H a := fun a m => by
  cases o with
  | st r => cases m
  | ow h r =>
    rw [List.mem_singleton.mp m]
    exact ⟨_, h, trivial⟩
theorem OwnL.ex : ∀ {vs : List V} {cs : List Ch} {as : List Addr}, OwnL K G H vs cs as → ∀ a ∈ as, PlA H a
  | _, _, _, .nil, _, m => by cases m
  | _, _, _, .cons o r, a, m => by
    rcases List.mem_append.mp m with m | m
    · exact o.ex a m
    · exact OwnL.ex r a m
theorem OwnF.ex : ∀ {vs : List (Str × V)} {cs : List (Str × Ch)} {as : List Addr}, OwnF K G H vs cs as → ∀ a ∈ as, PlA H a
  | _, _, _, .nil, _, m => by cases m
  | _, _, _, .cons o r, a, m => by
    rcases List.mem_append.mp m with m | m
    · exact o.ex a m
    · exact OwnF.ex r a m
theorem Own.ex {v : V} {b : B} {as : List Addr} (o : Own K G H v b as) : ∀ a ∈ as, PlA H a := fun a m => by
  cases o with
  | im r => cases m
  | ow h r =>
    rw [List.mem_singleton.mp m]
    exact ⟨_, h, trivial⟩
  | ol h r =>
    rcases List.mem_cons.mp m with m | m
    · rw [m]
      exact ⟨_, h, trivial⟩
    · exact r.ex a m
  | oo t h r =>
    rcases List.mem_cons.mp m with m | m
    · rw [m]
      exact ⟨_, h, trivial⟩
    · exact r.ex a m
theorem OwnC.data {v : V} {c : Ch} {as : List Addr} (o : OwnC K G H v c as) (eg : Same G G') (ag : Agree H G' as) : Rep K G' v c.d := by
  cases o with
  | st r => exact r.mono eg
  | ow h r => exact .lst (LsX.of (ag _ List.mem_cons_self _ trivial h)) (r.mono eg)
theorem OwnL.data : ∀ {vs : List V} {cs : List Ch} {as : List Addr}, OwnL K G H vs cs as → Same G G' → Agree H G' as → RepA K G' vs (cs.map Ch.d)
  | _, _, _, .nil, _, _ => .nil
  | _, _, _, .cons o r, eg, ag => .cons (o.data eg ag.left) (OwnL.data r eg ag.right)
theorem OwnF.data : ∀ {vs : List (Str × V)} {cs : List (Str × Ch)} {as : List Addr}, OwnF K G H vs cs as → Same G G' → Agree H G' as → RepF K G' vs (chF cs)
  | _, _, _, .nil, _, _ => .nil
  | _, _, _, .cons o r, eg, ag => .cons (o.data eg ag.left) (OwnF.data r eg ag.right)
theorem Own.data {v : V} {b : B} {as : List Addr} (o : Own K G H v b as) (eg : Same G G') (ag : Agree H G' as) : Rep K G' v b.d := by
  cases o with
  | im r => exact r.mono eg
  | ow h r => exact .lst (LsX.of (ag _ List.mem_cons_self _ trivial h)) (r.mono eg)
  | ol h r => exact .lst (LsX.of (ag _ List.mem_cons_self _ trivial h)) (r.data eg ag.tail)
  | oo t h r => exact .ins (ag _ List.mem_cons_self _ trivial h) (r.data eg ag.tail)
end
/-- the steady part with these cells added -/
def addG (G H : Hp) (as : List Addr) : Hp := fun a => if a ∈ as then H a else G a
theorem addG_same {G H : Hp} {as : List Addr} (h : ∀ a ∈ as, G a = none) : Same G (addG G H as) := Same.of fun a o e => by
  unfold addG
  rw [if_neg fun m => by rw [h a m] at e; cases e]
  exact e
theorem addG_agree {G H : Hp} {as : List Addr} : Agree H (addG G H as) as := fun a m o _ e => by
  unfold addG
  rw [if_pos m]
  exact e
theorem addG_in {G H : Hp} {as : List Addr} (h : Same G H) (hp : ∀ a ∈ as, PlA H a) : Same (addG G H as) H := fun a o e => by
  by_cases m : a ∈ as
  · have e2 : H a = some o := by
      unfold addG at e
      rwa [if_pos m] at e
    have p := (hp a m).pl o e2
    cases o <;> first | exact p.elim | exact e2
  · have e2 : G a = some o := by
      unfold addG at e
      rwa [if_neg m] at e
    have k := h a o e2
    cases o with
    | tbl ps =>
      refine ⟨k.1, fun t => k.2 ?_⟩
      obtain ⟨ps', h1, h2, h3⟩ := t
      rw [e] at h1
      cases h1
      refine ⟨ps, e2, h2, fun pos cv hc => ?_⟩
      obtain ⟨c, e3, e4⟩ := h3 pos cv hc
      refine ⟨c, e3, ?_⟩
      by_cases mc : c ∈ as
      · unfold addG at e4
        rw [if_pos mc] at e4
        exact ((hp c mc).pl _ e4).elim
      · unfold addG at e4
        rwa [if_neg mc] at e4
    | _ => exact k
theorem Grow.adds {G0 H0 G' H' : Hp} {as : List Addr} (g : Grow G0 H0 G' H') (h : ∀ a ∈ as, H0 a = none ∧ G' a = none) (hp : ∀ a ∈ as, PlA H' a) : Grow G0 H0 (addG G' H' as) H' :=
  ⟨g.g.trans (addG_same fun a m => (h a m).2), addG_in g.i hp, g.h, fun a a1 a2 => by
    unfold addG
    rw [if_neg fun m => a2 (h a m).1]
    exact g.u a a1 a2⟩

structure Base where
  G : Hp
  H : Hp
/-- the state of a def's body: bs what the caller had; the slots; the cells of one's own, slot by slot -/
structure EnvA (K : PySem.W.Frag) (bs : Base) (G H : Hp) (σ : L2.St) (Γ : List B) (A : Nat → List Addr) : Prop where
  gr : Grow bs.G bs.H G H
  len : σ.length = Γ.length
  at_ : ∀ (i : Nat) (b : B), Γ[i]? = some b → b ≠ .no → ∃ v, σ[i]? = some (some v) ∧ Own K G H v b (A i)
  fr : ∀ (i : Nat) (a : Addr), a ∈ A i → bs.H a = none ∧ G a = none ∧ PlA H a
  di : ∀ (i j : Nat) (a : Addr), i ≠ j → a ∈ A i → a ∈ A j → False
  nd : ∀ i : Nat, (A i).Nodup
  tb : TabsK K G
def EnvD (K : PySem.W.Frag) (bs : Base) (G H : Hp) (σ : L2.St) (Γ : List B) : Prop := ∃ A, EnvA K bs G H σ Γ A
structure Post where
  nx : List B → Prop
  rt : D → Prop
  bk : List B → Prop := fun _ => False
  ct : List B → Prop := fun _ => False
  ro : B → Prop := fun _ => False
/-- a thing of one's own that the caller had not -/
structure New (K : PySem.W.Frag) (H0 G H : Hp) (v : V) (b : B) (as : List Addr) : Prop where
  o : Own K G H v b as
  nd : as.Nodup
  fr : ∀ a ∈ as, H0 a = none ∧ G a = none
structure Fits (K : PySem.W.Frag) (bs : Base) (P : Post) (Dn : Ends) : Prop where
  nx : ∀ Γ σ G H, P.nx Γ → EnvD K bs G H σ Γ → Dn.nx σ H
  bk : ∀ Γ σ G H, P.bk Γ → EnvD K bs G H σ Γ → Dn.bk σ H
  ct : ∀ Γ σ G H, P.ct Γ → EnvD K bs G H σ Γ → Dn.ct σ H
  rt : ∀ d v G H, P.rt d → Grow bs.G bs.H G H → Rep K G v d → Dn.rt v H
  ro : ∀ b v as G H, P.ro b → Grow bs.G bs.H G H → New K bs.H G H v b as → Dn.rt v H
def DS (K : PySem.W.Frag) (t : TS) (Γ : List B) (P : Post) : Prop := ∀ (bs : Base) (σ : L2.St) (G H : Hp) (Dn : Ends), EnvD K bs G H σ Γ → Fits K bs P Dn → t Dn σ H

def fzB : B → B
  | .no => .no
  | .im d => .im d
  | .ow ds => .im (.lst ds)
  | .ol cs => .im (.lst (cs.map Ch.d))
  | .oo _ C fs => .im (.ins C (chF fs))
theorem fzB_d {b : B} (h : b ≠ .no) : fzB b = .im b.d := by
  cases b with
  | no => exact (h rfl).elim
  | _ => rfl
def fz (Γ : List B) : List B := Γ.map fzB
theorem set_get {α : Type} {xs : List α} {i j : Nat} {x y : α} (h : (xs.set i x)[j]? = some y) : (i = j ∧ y = x ∧ i < xs.length) ∨ (i ≠ j ∧ xs[j]? = some y) := by
  by_cases hij : i = j
  · subst hij
    have hl := (List.getElem?_eq_some_iff.mp h).1
    rw [List.length_set] at hl
    rw [List.getElem?_set_self hl] at h
    cases h
    exact .inl ⟨rfl, rfl, hl⟩
  · rw [List.getElem?_set_ne hij] at h
    exact .inr ⟨hij, h⟩
section
variable {bs : Base} {G H G' H' : Hp} {σ : L2.St} {Γ : List B} {A : Nat → List Addr}
theorem Own.im_rep {v : V} {d : D} {as : List Addr} (o : Own K G H v (.im d) as) : Rep K G v d := by
  cases o with
  | im r => exact r
theorem EnvA.sl (e : EnvA K bs G H σ Γ A) : Sl K G σ Γ := ⟨fun i d h =>
  let ⟨v, h1, h2⟩ := e.at_ i _ h (fun z => by cases z)
  ⟨v, h1, h2.im_rep⟩, e.len, e.tb⟩
theorem EnvA.grow (e : EnvA K bs G H σ Γ A) (g : Grow G H G' H') : EnvA K bs G' H' σ Γ A :=
  ⟨e.gr.trans g, e.len, fun i b h hb => by
    obtain ⟨v, h1, h2⟩ := e.at_ i b h hb
    exact ⟨v, h1, h2.mono g.g (Agree.of g.h)⟩, fun i a m => by
    obtain ⟨h1, h2, h3⟩ := e.fr i a m
    exact ⟨h1, g.u a h2 fun z => h3.ne z, h3.mono g.h⟩, e.di, e.nd, e.tb.mono g.g⟩
theorem EnvA.put (e : EnvA K bs G H σ Γ A) (i : Nat) {v : V} {b : B} {as : List Addr} (o : Own K G H v b as) (hf : ∀ a ∈ as, bs.H a = none ∧ G a = none) (hd : ∀ j a, j ≠ i → a ∈ A j → a ∈ as → False) (nd : as.Nodup) :
    EnvA K bs G H (σ.set i (some v)) (Γ.set i b) (fun j => if j = i then as else A j) :=
  ⟨e.gr, by rw [List.length_set, List.length_set]; exact e.len, fun j c h hc => by
    rcases set_get h with ⟨rfl, z, hl⟩ | ⟨hij, h⟩
    · subst z
      refine ⟨v, by rw [List.getElem?_set_self (by rw [e.len]; exact hl)], ?_⟩
      rw [if_pos rfl]
      exact o
    · obtain ⟨w, h1, h2⟩ := e.at_ j c h hc
      refine ⟨w, by rw [List.getElem?_set_ne hij]; exact h1, ?_⟩
      rw [if_neg fun z => hij z.symm]
      exact h2, fun j a m => by
    by_cases hj : j = i
    · rw [if_pos hj] at m
      exact ⟨(hf a m).1, (hf a m).2, o.ex a m⟩
    · rw [if_neg hj] at m
      exact e.fr j a m, fun j k a hjk m1 m2 => by
    by_cases hj : j = i
    · rw [if_pos hj] at m1
      rw [if_neg fun z => hjk (hj.trans z.symm)] at m2
      exact hd k a (fun z => hjk (hj.trans z.symm)) m2 m1
    · rw [if_neg hj] at m1
      by_cases hk : k = i
      · rw [if_pos hk] at m2
        exact hd j a hj m1 m2
      · rw [if_neg hk] at m2
        exact e.di j k a hjk m1 m2, fun j => by
    by_cases hj : j = i
    · rw [if_pos hj]
      exact nd
    · rw [if_neg hj]
      exact e.nd j, e.tb⟩
/-- a new thing of one's own is stored -/
theorem EnvA.fresh (e : EnvA K bs G H σ Γ A) (g : Grow G H G' H') (i : Nat) {v : V} {b : B} {as : List Addr} (n : New K H G' H' v b as) : EnvD K bs G' H' (σ.set i (some v)) (Γ.set i b) :=
  ⟨_, (e.grow g).put i n.o (fun a m => ⟨none_back e.gr.h (n.fr a m).1, (n.fr a m).2⟩) (fun j a _ m1 m2 => (e.fr j a m1).2.2.ne (n.fr a m2).1) n.nd⟩
/-- a cell of one's own is changed -/
theorem EnvA.change (e : EnvA K bs G H σ Γ A) {i : Nat} {b b' : B} {v : V} {l : Addr} {o : HO} (po : Pl o) (hi : Γ[i]? = some b) (hv : σ[i]? = some (some v)) (hl : l ∈ A i) (r : Own K G (upd H l o) v b' (A i)) : EnvA K bs G (upd H l o) σ (Γ.set i b') A := by
  obtain ⟨f1, f2, f3⟩ := e.fr i l hl
  refine ⟨e.gr.mut f1 f2 f3.pl, by rw [List.length_set]; exact e.len, fun j c h hc => ?_, fun j a m => ?_, e.di, e.nd, e.tb⟩
  · rcases set_get h with ⟨rfl, z, hlt⟩ | ⟨hij, h⟩
    · subst z
      exact ⟨v, hv, r⟩
    · obtain ⟨w, h1, h2⟩ := e.at_ j c h hc
      exact ⟨w, h1, h2.mono (Same.refl G) (Agree.upd fun m => e.di i j l hij hl m)⟩
  · obtain ⟨h1, h2, h3⟩ := e.fr j a m
    refine ⟨h1, h2, ?_⟩
    by_cases ha : a = l
    · rw [ha]
      exact ⟨o, upd_same, po⟩
    · obtain ⟨u, u1, u2⟩ := h3
      exact ⟨u, by rw [upd_ne ha]; exact u1, u2⟩
/-- what is one's own is given up: from now on it stands still -/
theorem EnvA.give (e : EnvA K bs G H σ Γ A) {i : Nat} {b : B} (hi : Γ[i]? = some b) (hb : b ≠ .no) : EnvA K bs (addG G H (A i)) H σ (Γ.set i (.im b.d)) (fun j => if j = i then [] else A j) := by
  have hs : Same G (addG G H (A i)) := addG_same fun a m => (e.fr i a m).2.1
  refine ⟨e.gr.adds (fun a m => ⟨(e.fr i a m).1, (e.fr i a m).2.1⟩) fun a m => (e.fr i a m).2.2, by rw [List.length_set]; exact e.len, fun j c h hc => ?_, fun j a m => ?_, fun j k a hjk m1 m2 => ?_, fun j => ?_, e.tb.mono hs⟩
  · rcases set_get h with ⟨rfl, z, hlt⟩ | ⟨hij, h⟩
    · subst z
      obtain ⟨v, h1, h2⟩ := e.at_ i b hi hb
      refine ⟨v, h1, ?_⟩
      rw [if_pos rfl]
      exact .im (h2.data hs addG_agree)
    · obtain ⟨w, h1, h2⟩ := e.at_ j c h hc
      refine ⟨w, h1, ?_⟩
      rw [if_neg fun z => hij z.symm]
      exact h2.mono hs (Agree.of (Same.refl H))
  · by_cases hj : j = i
    · rw [if_pos hj] at m
      cases m
    · rw [if_neg hj] at m
      obtain ⟨h1, h2, h3⟩ := e.fr j a m
      refine ⟨h1, ?_, h3⟩
      unfold addG
      rw [if_neg fun z => e.di j i a hj m z]
      exact h2
  · by_cases hj : j = i
    · rw [if_pos hj] at m1
      cases m1
    · by_cases hk : k = i
      · rw [if_pos hk] at m2
        cases m2
      · rw [if_neg hj] at m1
        rw [if_neg hk] at m2
        exact e.di j k a hjk m1 m2
  · by_cases hj : j = i
    · rw [if_pos hj]
      exact List.nodup_nil
    · rw [if_neg hj]
      exact e.nd j
theorem EnvD.gr (e : EnvD K bs G H σ Γ) : Grow bs.G bs.H G H := let ⟨_, e⟩ := e; e.gr
theorem EnvD.sl (e : EnvD K bs G H σ Γ) : Sl K G σ Γ := let ⟨_, e⟩ := e; e.sl
theorem EnvD.grow (e : EnvD K bs G H σ Γ) (g : Grow G H G' H') : EnvD K bs G' H' σ Γ := let ⟨A, e⟩ := e; ⟨A, e.grow g⟩
theorem EnvD.set (e : EnvD K bs G H σ Γ) (i : Nat) {v : V} {d : D} (r : Rep K G v d) : EnvD K bs G H (σ.set i (some v)) (Γ.set i (.im d)) :=
  let ⟨_, e⟩ := e
  ⟨_, e.put i (.im r) (fun _ m => (List.not_mem_nil m).elim) (fun _ _ _ _ m => (List.not_mem_nil m).elim) List.nodup_nil⟩
theorem New.list {G H : Hp} {p : Addr} {vs : List V} {ds : List D} (e : Same G H) (hp : H p = none) (r : RepA K G vs ds) : New K H G (upd H p (.lst vs)) (.ref p) (.ow ds) [p] :=
  ⟨.ow upd_same r, List.nodup_cons.mpr ⟨by simp, List.nodup_nil⟩, fun a m => by
    rw [List.mem_singleton.mp m]
    exact ⟨hp, none_back e hp⟩⟩
theorem Grow.side {G H H' : Hp} (e : Same G H) (h : Same H H') : Grow G H G H' := ⟨Same.refl G, e.trans h, h, fun _ a _ => a⟩
/-- a new list of one's own -/
theorem EnvD.own (e : EnvD K bs G H σ Γ) (i : Nat) {p : Addr} {vs : List V} {ds : List D} (hp : H p = none) (r : RepA K G vs ds) : EnvD K bs G (upd H p (.lst vs)) (σ.set i (some (.ref p))) (Γ.set i (.ow ds)) :=
  let ⟨_, e⟩ := e
  e.fresh (Grow.side e.gr.i (same_new hp)) i (New.list e.gr.i hp r)
theorem EnvD.give (e : EnvD K bs G H σ Γ) {i : Nat} {b : B} (hi : Γ[i]? = some b) (hb : b ≠ .no) : ∃ G', EnvD K bs G' H σ (Γ.set i (.im b.d)) :=
  let ⟨_, e⟩ := e
  ⟨_, _, e.give hi hb⟩
theorem EnvD.drop (e : EnvD K bs G H σ Γ) (i : Nat) : EnvD K bs G H σ (Γ.set i .no) :=
  let ⟨A, e⟩ := e
  ⟨A, e.gr, by rw [List.length_set]; exact e.len, fun j c h hc => by
    rcases set_get h with ⟨_, z, _⟩ | ⟨_, h⟩
    · exact (hc z).elim
    · exact e.at_ j c h hc, e.fr, e.di, e.nd, e.tb⟩
theorem EnvD.fz (e : EnvD K bs G H σ Γ) : Sl K H σ (fz Γ) := let ⟨A, e⟩ := e
  ⟨fun i d h => by
    unfold DL.fz at h
    rw [List.getElem?_map] at h
    cases hb : Γ[i]? with
    | none =>
      rw [hb] at h
      cases h
    | some b =>
      rw [hb] at h
      by_cases hn : b = .no
      · subst hn
        cases h
      · rw [show (Option.map fzB (some b)) = some (.im b.d) from congrArg some (fzB_d hn)] at h
        cases h
        obtain ⟨v, h1, h2⟩ := e.at_ i b hb hn
        exact ⟨v, h1, h2.data e.gr.i (Agree.of (Same.refl H))⟩, by unfold DL.fz; rw [List.length_map]; exact e.len, e.tb.mono e.gr.i⟩
theorem Grow.out {bG bH G1 G H : Hp} (g : Grow G1 bH G H) (h : Same bG G1) (u : ∀ a, bG a = none → bH a ≠ none → G1 a = none) : Grow bG bH G H := ⟨h.trans g.g, g.i, g.h, fun a a1 a2 => g.u a (u a a1 a2) a2⟩
theorem EnvD.inn {G1 : Hp} (e : EnvD K bs G H σ Γ) (s : Same G1 G) (h : Same bs.G G1) : EnvD K ⟨G1, bs.H⟩ G H σ Γ :=
  let ⟨A, e⟩ := e
  ⟨A, ⟨s, e.gr.i, e.gr.h, fun a a1 a2 => e.gr.u a (h.free a1) a2⟩, e.len, e.at_, e.fr, e.di, e.nd, e.tb⟩
theorem EnvD.out {G1 : Hp} (e : EnvD K ⟨G1, bs.H⟩ G H σ Γ) (h : Same bs.G G1) (u : ∀ a, bs.G a = none → bs.H a ≠ none → G1 a = none) : EnvD K bs G H σ Γ :=
  let ⟨A, e⟩ := e
  ⟨A, e.gr.out h u, e.len, e.at_, e.fr, e.di, e.nd, e.tb⟩
end

/-! ## expressions in a body: the lists of one's own out of sight, or read for a flat answer -/
def DEo (K : PySem.W.Frag) (te : TE) (Γ : List B) (d : D) : Prop := ∀ (σ : L2.St) (bs : Base) (G H : Hp), EnvD K bs G H σ Γ → ∀ Q : VK, (∀ v G' H', Grow G H G' H' → Rep K G' v d → Q v H') → te σ H Q
def DTo (K : PySem.W.Frag) (t : TT) (Γ : List B) (b : Bool) : Prop := ∀ (σ : L2.St) (bs : Base) (G H : Hp), EnvD K bs G H σ Γ → ∀ Q : Bool → Hp → Prop, (∀ G' H', Grow G H G' H' → Q b H') → t σ H Q
def DAo (K : PySem.W.Frag) (t : TA) (Γ : List B) (ds : List D) : Prop := ∀ (σ : L2.St) (bs : Base) (G H : Hp), EnvD K bs G H σ Γ → ∀ Q : List V → Hp → Prop, (∀ vs G' H', Grow G H G' H' → RepA K G' vs ds → Q vs H') → t σ H Q
/-- an expression that hands a new thing of one's own -/
def DX (K : PySem.W.Frag) (te : TE) (Γ : List B) (b : B) : Prop := ∀ (σ : L2.St) (G H : Hp), Same G H → Sl K G σ Γ → ∀ Q : VK, (∀ v G' H' as, Grow G H G' H' → New K H G' H' v b as → Q v H') → te σ H Q
def DXo (K : PySem.W.Frag) (te : TE) (Γ : List B) (b : B) : Prop := ∀ (σ : L2.St) (bs : Base) (G H : Hp), EnvD K bs G H σ Γ → ∀ Q : VK, (∀ v G' H' as, Grow G H G' H' → New K H G' H' v b as → Q v H') → te σ H Q
section
variable {Γ Γ' : List B} {te : TE} {t : TT} {ta : TA} {d : D} {ds es : List D} {b : Bool} {c : B}
theorem deo (h : DE K te Γ d) : DEo K te Γ d := fun σ bs G H e Q q => h σ G H e.gr.i e.sl Q q
theorem deo_fz (h : DE K te (fz Γ) d) (hf : flat d = true) : DEo K te Γ d := fun σ bs G H e Q q => h σ H H (Same.refl H) e.fz Q fun v G' H' g r => q v G H' (Grow.side e.gr.i g.h) (r.flat hf)
theorem dto (h : DT K t Γ b) : DTo K t Γ b := fun σ bs G H e Q q => h σ G H e.gr.i e.sl Q q
theorem dto_fz (h : DT K t (fz Γ) b) : DTo K t Γ b := fun σ bs G H e Q q => h σ H H (Same.refl H) e.fz Q fun G' H' g => q G H' (Grow.side e.gr.i g.h)
theorem dao (h : DAr K ta Γ ds) : DAo K ta Γ ds := fun σ bs G H e Q q => h σ G H e.gr.i e.sl Q q
theorem RepA.flat {G G' : Hp} : ∀ {vs : List V} {ds : List D}, RepA K G vs ds → ds.all DL.flat = true → RepA K G' vs ds
  | _, _, .nil, _ => .nil
  | _, _, .cons h t, e => by
    rw [List.all_cons, Bool.and_eq_true] at e
    exact .cons (h.flat e.1) (RepA.flat t e.2)
theorem dao_fz (h : DAr K ta (fz Γ) ds) (hf : ds.all flat = true) : DAo K ta Γ ds := fun σ bs G H e Q q => h σ H H (Same.refl H) e.fz Q fun v G' H' g r => q v G H' (Grow.side e.gr.i g.h) (r.flat hf)
theorem dxo (h : DX K te Γ c) : DXo K te Γ c := fun σ bs G H e Q q => h σ G H e.gr.i e.sl Q q
/-- a new thing of one's own, given up at once -/
theorem de_new (h : DX K te Γ c) (e : c.d = d) : DE K te Γ d := fun σ G H s sl Q q => h σ G H s sl Q fun v G' H' as g n =>
  q v _ H' (g.adds n.fr n.o.ex) (by
    rw [← e]
    exact n.o.data (addG_same fun a m => (n.fr a m).2) addG_agree)
theorem dx_im (h : DE K te Γ d) : DX K te Γ (.im d) := fun σ G H s sl Q q => h σ G H s sl Q fun v G' H' g r => q v G' H' [] g ⟨.im r, List.nodup_nil, fun _ m => (List.not_mem_nil m).elim⟩
theorem dx_lst (h : DAr K ta Γ ds) (hl : ds.length ≤ 1000) : DX K (tLst ta) Γ (.ow ds) := fun σ G H s sl Q q => h σ G H s sl _ fun vs G1 H1 g1 r1 => ⟨by rw [r1.len]; exact Nat.le_trans hl (by decide), fun p hp =>
  q (.ref p) G1 _ [p] (g1.trans (Grow.side g1.i (same_new hp))) (by
    obtain ⟨n1, n2, n3⟩ := New.list (K := K) g1.i hp r1
    exact ⟨n1, n2, fun a m => ⟨none_back g1.h (n3 a m).1, (n3 a m).2⟩⟩)⟩
end

/-! ## statements -/
section
variable {Γ Γ' : List B} {te tl : TE} {c : TT} {ta : TA} {t u tb : TS} {d : D} {ds es : List D} {b : Bool} {P : Post} {g : TG} {wi : TI}
theorem ds_seq (h : DS K t Γ { P with nx := fun Γ' => DS K u Γ' P }) : DS K (tSeq t u) Γ P := fun bs σ G H Dn e f =>
  h bs σ G H _ e ⟨fun Γ' σ' G' H' k e' => k bs σ' G' H' Dn e' f, f.bk, f.ct, f.rt, f.ro⟩
/-- a statement, then what follows from one known state -/
theorem ds_cut (X : List B) (h : DS K t Γ { P with nx := fun Γ' => Γ' = X }) (k : DS K u X P) : DS K (tSeq t u) Γ P := fun bs σ G H Dn e f =>
  h bs σ G H _ e ⟨fun Γ' σ' G' H' z e' => by
    have z' : Γ' = X := z
    subst z'
    exact k bs σ' G' H' Dn e' f, f.bk, f.ct, f.rt, f.ro⟩
/-- the same by what is known -/
theorem ds_cutP (I : List B → Prop) (h : DS K t Γ { P with nx := I }) (k : ∀ X, I X → DS K u X P) : DS K (tSeq t u) Γ P := fun bs σ G H Dn e f =>
  h bs σ G H _ e ⟨fun Γ' σ' G' H' z e' => k Γ' z bs σ' G' H' Dn e' f, f.bk, f.ct, f.rt, f.ro⟩
theorem ds_imp {P' : Post} (h : DS K t Γ P) (h1 : ∀ Γ, P.nx Γ → P'.nx Γ) (h2 : ∀ Γ, P.bk Γ → P'.bk Γ) (h3 : ∀ Γ, P.ct Γ → P'.ct Γ) (h4 : ∀ d, P.rt d → P'.rt d) (h5 : ∀ b, P.ro b → P'.ro b) : DS K t Γ P' := fun bs σ G H Dn e f =>
  h bs σ G H Dn e ⟨fun Γ σ G H k => f.nx Γ σ G H (h1 Γ k), fun Γ σ G H k => f.bk Γ σ G H (h2 Γ k), fun Γ σ G H k => f.ct Γ σ G H (h3 Γ k), fun d v G H k => f.rt d v G H (h4 d k), fun b v as G H k => f.ro b v as G H (h5 b k)⟩
theorem ds_next (h : P.nx Γ) : DS K tNext Γ P := fun bs σ G H Dn e f => f.nx Γ σ G H h e
theorem ds_break (h : P.bk Γ) : DS K tBreak Γ P := fun bs σ G H Dn e f => f.bk Γ σ G H h e
theorem ds_cont (h : P.ct Γ) : DS K tCont Γ P := fun bs σ G H Dn e f => f.ct Γ σ G H h e
theorem ds_asg (i : Nat) (h : DEo K te Γ d) (k : P.nx (Γ.set i (.im d))) : DS K (tAsg te (gName i)) Γ P := fun bs σ G H Dn e f =>
  h σ bs G H e _ fun v G' H' g r => f.nx _ _ G' H' k ((e.grow g).set i r)
theorem ds_drop (h : DEo K te Γ d) (k : P.nx Γ) : DS K (tDrop te) Γ P := fun bs σ G H Dn e f => h σ bs G H e _ fun v G' H' g r => f.nx _ _ G' H' k (e.grow g)
theorem ds_ret (h : DEo K te Γ d) (k : P.rt d) : DS K (tRet te) Γ P := fun bs σ G H Dn e f => h σ bs G H e _ fun v G' H' g r => f.rt d v G' H' k (e.gr.trans g) r
theorem ds_retN (k : P.rt .non) : DS K tRetN Γ P := fun bs σ G H Dn e f => f.rt .non .non G H k e.gr .non
theorem ds_give (i : Nat) (hi : Γ[i]? = some (.ow ds)) (k : DS K t (Γ.set i (.im (.lst ds))) P) : DS K t Γ P := fun bs σ G H Dn e f => by
  obtain ⟨G', e'⟩ := e.give hi (fun z => by cases z)
  exact k bs σ G' H Dn e' f
theorem ds_giveB (i : Nat) {w : B} (hi : Γ[i]? = some w) (hw : w ≠ .no) (k : DS K t (Γ.set i (.im w.d)) P) : DS K t Γ P := fun bs σ G H Dn e f => by
  obtain ⟨G', e'⟩ := e.give hi hw
  exact k bs σ G' H Dn e' f
theorem ds_forget (i : Nat) (k : DS K t (Γ.set i .no) P) : DS K t Γ P := fun bs σ G H Dn e f => k bs σ G H Dn (e.drop i) f
theorem ds_if (h : DTo K c Γ b) (h1 : b = true → DS K t Γ P) (h2 : b = false → DS K u Γ P) : DS K (tIfS c t u) Γ P := fun bs σ G H Dn e f =>
  h σ bs G H e _ fun G' H' g => by
    cases b with
    | true => exact h1 rfl bs σ G' H' Dn (e.grow g) f
    | false => exact h2 rfl bs σ G' H' Dn (e.grow g) f
/-- an if whose way is known -/
theorem ds_ifT (h : DTo K c Γ true) (h1 : DS K t Γ P) : DS K (tIfS c t u) Γ P := ds_if h (fun _ => h1) fun z => by cases z
theorem ds_ifF (h : DTo K c Γ false) (h1 : DS K u Γ P) : DS K (tIfS c t u) Γ P := ds_if h (fun z => by cases z) fun _ => h1
theorem ds_par (i j : Nat) {a : D} (h : DAo K ta Γ [a, d]) (k : P.nx ((Γ.set i (.im a)).set j (.im d))) : DS K (tPar i j ta) Γ P := fun bs σ G H Dn e f =>
  h σ bs G H e _ fun vs G' H' g r => by
    cases r with
    | cons r1 r2 =>
      cases r2 with
      | cons r2 r3 =>
        cases r3
        exact ⟨_, _, rfl, f.nx _ _ G' H' k (((e.grow g).set i r1).set j r2)⟩
theorem ds_par3 (i j l : Nat) {a a2 : D} (h : DAo K ta Γ [a, a2, d]) (k : P.nx (((Γ.set i (.im a)).set j (.im a2)).set l (.im d))) : DS K (tPar3 i j l ta) Γ P := fun bs σ G H Dn e f =>
  h σ bs G H e _ fun vs G' H' g r => by
    cases r with
    | cons r1 r2 =>
      cases r2 with
      | cons r2 r3 =>
        cases r3 with
        | cons r3 r4 =>
          cases r4
          exact ⟨_, _, _, rfl, f.nx _ _ G' H' k ((((e.grow g).set i r1).set j r2).set l r3)⟩
/-- a target of any kind -/
theorem ds_asgG (h : DEo K te Γ d) (hg : DG K g (fun _ => True) d Γ Γ') (k : P.nx Γ') : DS K (tAsg te g) Γ P := fun bs σ G H Dn e f =>
  h σ bs G H e _ fun v G' H' g' r => hg v G' H' σ _ (fun σ Γ => EnvD K bs G' H' σ Γ) g'.i r (fun σ Γ i v d _ rv I => I.set i rv) (e.grow g') fun σ' I => f.nx _ _ G' H' k I
/-- x = [..] for a list of one's own -/
theorem ds_own (i : Nat) (h : DAo K ta Γ ds) (hl : ds.length ≤ 1000) (k : P.nx (Γ.set i (.ow ds))) : DS K (tAsg (tLst ta) (gName i)) Γ P := fun bs σ G H Dn e f =>
  h σ bs G H e _ fun vs G' H' g r => ⟨by rw [r.len]; exact Nat.le_trans hl (by decide), fun p hp => f.nx _ _ G' _ k ((e.grow g).own i hp r)⟩
/-- x = e for a new thing of one's own -/
theorem ds_asgX (i : Nat) {w : B} (h : DXo K te Γ w) (k : P.nx (Γ.set i w)) : DS K (tAsg te (gName i)) Γ P := fun bs σ G H Dn ⟨A, e⟩ f =>
  h σ bs G H ⟨A, e⟩ _ fun v G' H' as g n => f.nx _ _ G' H' k (e.fresh g i n)
theorem ds_retX {w : B} (h : DXo K te Γ w) (k : P.ro w) : DS K (tRet te) Γ P := fun bs σ G H Dn e f =>
  h σ bs G H e _ fun v G' H' as g n => f.ro w v as G' H' k (e.gr.trans g) ⟨n.o, n.nd, fun a m => ⟨none_back e.gr.h (n.fr a m).1, (n.fr a m).2⟩⟩
theorem ds_retO (i : Nat) {w : B} (hi : Γ[i]? = some w) (hw : w ≠ .no) (k : P.ro w) : DS K (tRet (tVar i)) Γ P := fun bs σ G H Dn ⟨A, e⟩ f => by
  obtain ⟨v, h1, h2⟩ := e.at_ i w hi hw
  exact ⟨v, h1, f.ro w v (A i) G H k e.gr ⟨h2, e.nd i, fun a m => ⟨(e.fr i a m).1, (e.fr i a m).2.1⟩⟩⟩
theorem own_at {bs : Base} {G H : Hp} {σ : L2.St} {i : Nat} {A : Nat → List Addr} (e : EnvA K bs G H σ Γ A) (hi : Γ[i]? = some (.ow ds)) : ∃ l vs, σ[i]? = some (some (.ref l)) ∧ H l = some (.lst vs) ∧ RepA K G vs ds ∧ A i = [l] := by
  obtain ⟨v, h1, h2⟩ := e.at_ i _ hi (fun z => by cases z)
  generalize hA : A i = as at h2
  cases h2 with
  | ow h r => exact ⟨_, _, h1, h, r, rfl⟩
/-- one's own list is changed -/
theorem own_set {bs : Base} {G H : Hp} {σ : L2.St} {i : Nat} {A : Nat → List Addr} {l : Addr} {ws : List V} (e : EnvA K bs G H σ Γ A) (hi : Γ[i]? = some (.ow ds)) (hl : σ[i]? = some (some (.ref l))) (r : RepA K G ws es) : EnvA K bs G (upd H l (.lst ws)) σ (Γ.set i (.ow es)) A := by
  obtain ⟨l', vs, a1, a2, a3, a4⟩ := own_at e hi
  rw [a1] at hl
  cases hl
  refine e.change trivial hi a1 (by rw [a4]; exact List.mem_cons_self) ?_
  rw [a4]
  exact .ow upd_same r
/-- x.append(e) -/
theorem ds_app (i : Nat) (hi : Γ[i]? = some (.ow ds)) (h : DEo K te Γ d) (hl : ds.length ≤ 100000) (k : P.nx (Γ.set i (.ow (ds ++ [d])))) : DS K (tDrop (tBM K "list" rAppend (tVar i) (tCons te tNil))) Γ P := fun bs σ G H Dn ⟨A, e⟩ f => by
  obtain ⟨l, vs, h1, h2, h3, _⟩ := own_at e hi
  refine ⟨_, h1, Or.inl ⟨rfl, _, Or.inl (Or.inl h2)⟩, h σ bs G H ⟨A, e⟩ _ fun v G' H' g r => ?_⟩
  obtain ⟨l', vs', a1, a2, a3, _⟩ := own_at (e.grow g) hi
  rw [h1] at a1
  cases a1
  refine ⟨l, vs', v, rfl, rfl, a2, ?_, f.nx _ _ G' _ k ⟨A, own_set (e.grow g) hi h1 (a3.app (.cons r .nil))⟩⟩
  rw [a3.len]
  exact Nat.lt_of_le_of_lt hl (by decide)
/-- l.extend(b), b tracked or locked or written -/
def rExtX (K : PySem.W.Frag) : V → List V → Hp → VK → Prop := fun x vs H Q => ∃ l b xs zs, x = .ref l ∧ vs = [.ref b] ∧ H l = some (.lst xs) ∧ LsX K H b zs ∧ xs.length + zs.length ≤ sizeLine ∧ Q .non (upd H l (.lst (xs ++ zs)))
/-- x.extend(e), e a list that stands still -/
theorem ds_ext (i : Nat) (hi : Γ[i]? = some (.ow ds)) (h : DEo K te Γ (.lst es)) (hl : ds.length + es.length ≤ 100000) (k : P.nx (Γ.set i (.ow (ds ++ es)))) : DS K (tDrop (tBM K "list" (rExtX K) (tVar i) (tCons te tNil))) Γ P := fun bs σ G H Dn ⟨A, e⟩ f => by
  obtain ⟨l, vs, h1, h2, h3, _⟩ := own_at e hi
  refine ⟨_, h1, Or.inl ⟨rfl, _, Or.inl (Or.inl h2)⟩, h σ bs G H ⟨A, e⟩ _ fun v G' H' g r => ?_⟩
  obtain ⟨l', vs', a1, a2, a3, _⟩ := own_at (e.grow g) hi
  rw [h1] at a1
  cases a1
  cases r with
  | @lst b zs _ hs ra =>
    refine ⟨l, b, vs', zs, rfl, rfl, a2, ls_same g.i hs, ?_, f.nx _ _ G' _ k ⟨A, own_set (e.grow g) hi h1 (a3.app ra)⟩⟩
    rw [a3.len, ra.len]
    exact Nat.le_trans hl (by decide)
/-- x = l.pop(), l a list of one's own; any target -/
theorem ds_pop (i : Nat) (hi : Γ[i]? = some (.ow (ds ++ [d]))) (hg : DG K g (fun _ => True) d (Γ.set i (.ow ds)) Γ') (k : P.nx Γ') : DS K (tAsg (tBM0 K "list" rPop (tVar i)) g) Γ P := fun bs σ G H Dn ⟨A, e⟩ f => by
  obtain ⟨l, vs, h1, h2, h3, _⟩ := own_at e hi
  have hn : (ds ++ [d])[vs.length - 1]? = some d := by
    rw [h3.len, List.length_append, List.length_singleton, Nat.add_sub_cancel, List.getElem?_append_right (Nat.le_refl _), Nat.sub_self]
    rfl
  obtain ⟨v, hv, rv⟩ := h3.at hn
  have hr := h3.dropLast
  rw [List.dropLast_concat] at hr
  refine ⟨_, h1, Or.inl ⟨rfl, _, Or.inl (Or.inl h2)⟩, l, vs, v, rfl, rfl, h2, hv, ?_⟩
  have e2 : EnvD K bs G (upd H l (.lst vs.dropLast)) σ (Γ.set i (.ow ds)) := ⟨A, own_set e hi h1 hr⟩
  exact hg v G _ σ _ (fun σ Γ => EnvD K bs G (upd H l (.lst vs.dropLast)) σ Γ) e2.gr.i rv (fun σ Γ i v d _ rv I => I.set i rv) e2 fun σ' I => f.nx _ _ G _ k I
/-- x[e] = f in a list of one's own -/
theorem ds_setIx (i n : Nat) {te ti : TE} {m : Int} (hi : Γ[i]? = some (.ow ds)) (h : DEo K te Γ d) (hm : DEo K ti Γ (.int m)) (hn : ixN ds.length m = some n) (k : P.nx (Γ.set i (.ow (ds.set n d)))) : DS K (tAsg te (gSub (tVar i) ti rSetL)) Γ P := fun bs σ G H Dn ⟨A, e⟩ f => by
  refine h σ bs G H ⟨A, e⟩ _ fun v G' H' g r => ?_
  obtain ⟨l, vs, h1, h2, h3, _⟩ := own_at (e.grow g) hi
  refine ⟨_, h1, hm σ bs G' H' ⟨A, e.grow g⟩ _ fun w G2 H2 g2 r2 => ?_⟩
  cases r2
  obtain ⟨l', vs', a1, a2, a3, _⟩ := own_at ((e.grow g).grow g2) hi
  rw [h1] at a1
  cases a1
  exact ⟨l, vs', m, n, rfl, rfl, a2, by rw [a3.len]; exact hn, f.nx _ _ G2 _ k ⟨A, own_set ((e.grow g).grow g2) hi h1 (a3.set (r.mono g2.g) n)⟩⟩
theorem ds_for (hi : DI K wi Γ ds) (I : Nat → List B → Prop) (h0 : I 0 Γ)
    (hs : ∀ i d Γ', ds[i]? = some d → I i Γ' → ∃ Γ2, DG K g (fun _ => True) d Γ' Γ2 ∧ DS K tb Γ2 { P with nx := I (i + 1), ct := I (i + 1), bk := P.nx }) (hd : ∀ Γ', I ds.length Γ' → P.nx Γ') : DS K (tFor wi g tb) Γ P := fun bs σ G H Dn e f =>
  hi σ G H e.gr.i e.sl _ fun J G1 H1 g1 W => by
    obtain ⟨Y, w, y⟩ := W.w
    refine for_it w (fun i σ' H' => ∃ Γ' G', I i Γ' ∧ EnvD K bs G' H' σ' Γ' ∧ Same G1 G') ⟨Γ, G1, h0, e.grow g1, Same.refl _⟩ (fun i σ' H' _ ⟨Γ', G', _, e', s'⟩ => s'.trans e'.gr.i) ?_ ?_
    · rintro i x σ' H2 H3 hlt ⟨Γ', G', hI, e', s'⟩ hy
      have hx : ds[i]? = some ds[i] := List.getElem?_eq_getElem hlt
      obtain ⟨G3, g3, r3⟩ := y i G' H2 x H3 ds[i] s' e'.gr.i hy hx
      obtain ⟨Γ2, hg, hb⟩ := hs i ds[i] Γ' hx hI
      refine hg x G3 H3 σ' _ (fun σ Γ => EnvD K bs G3 H3 σ Γ) g3.i r3 (fun σ Γ j v d _ rv I => I.set j rv) (e'.grow g3) fun σ2 I2 => ?_
      have hb0 : Same bs.G G1 := e.gr.g.trans g1.g
      have hu0 : ∀ a, bs.G a = none → bs.H a ≠ none → G1 a = none := (e.gr.trans g1).u
      refine hb ⟨G1, bs.H⟩ σ2 G3 H3 _ (I2.inn (s'.trans g3.g) hb0) ⟨fun Γ' σ' G' H' k e => ⟨Γ', G', k, e.out hb0 hu0, e.gr.g⟩, fun Γ' σ' G' H' k e => f.nx _ _ G' H' k (e.out hb0 hu0), fun Γ' σ' G' H' k e => ⟨Γ', G', k, e.out hb0 hu0, e.gr.g⟩, fun d v G' H' k gr r => f.rt d v G' H' k (gr.out hb0 hu0) r, fun w v as G' H' k gr n => f.ro w v as G' H' k (gr.out hb0 hu0) n⟩
    · rintro σ' H' ⟨Γ', G', hI, e', _⟩
      exact f.nx _ _ G' H' (hd _ hI) e'
/-- while, by a number that falls -/
theorem ds_while (I : Nat → List B → Prop) (m0 : Nat) (h0 : I m0 Γ)
    (hs : ∀ m Γ', I m Γ' → ∃ b, DTo K c Γ' b ∧ (b = true → DS K tb Γ' { P with nx := fun Γ2 => ∃ m', m' < m ∧ I m' Γ2, ct := fun Γ2 => ∃ m', m' < m ∧ I m' Γ2, bk := P.nx }) ∧ (b = false → P.nx Γ')) : DS K (tWhile c tb) Γ P := fun bs σ G H Dn e f => by
  refine ⟨fun m σ' H' => ∃ Γ' G', I m Γ' ∧ EnvD K bs G' H' σ' Γ', ⟨m0, Γ, G, h0, e⟩, ?_⟩
  rintro m σ' H' ⟨Γ', G', hI, e'⟩
  obtain ⟨b, hc, h1, h2⟩ := hs m Γ' hI
  refine hc σ' bs G' H' e' _ fun G2 H2 g2 => ?_
  cases b with
  | true =>
    exact ⟨fun σ3 H3 => ∃ m', m' < m ∧ ∃ Γ3 G3, I m' Γ3 ∧ EnvD K bs G3 H3 σ3 Γ3, fun σ3 H3 ⟨m', lt, q⟩ => ⟨m', lt, q⟩,
      h1 rfl bs σ' G2 H2 _ (e'.grow g2) ⟨fun Γ3 σ3 G3 H3 ⟨m', lt, k⟩ e3 => ⟨m', lt, Γ3, G3, k, e3⟩, fun Γ3 σ3 G3 H3 k e3 => f.nx _ _ G3 H3 k e3, fun Γ3 σ3 G3 H3 ⟨m', lt, k⟩ e3 => ⟨m', lt, Γ3, G3, k, e3⟩, f.rt, f.ro⟩⟩
  | false => exact f.nx _ _ G2 H2 (h2 rfl) (e'.grow g2)
end

/-! ## defs -/
/-- a def that hands back data for data; R: which -/
def spR (K : PySem.W.Frag) (n : Nat) (R : List D → D → Prop) : Sp := fun vs H Q _ => ∃ (G : Hp) (ds : List D) (d : D), ds.length = n ∧ Same G H ∧ TabsK K G ∧ RepA K G vs ds ∧ R ds d ∧ ∀ v G' H', Grow G H G' H' → Rep K G' v d → Q v H'
/-- a def that hands back a new thing of one's own -/
def spO (K : PySem.W.Frag) (n : Nat) (R : List D → B → Prop) : Sp := fun vs H Q _ => ∃ (G : Hp) (ds : List D) (b : B), ds.length = n ∧ Same G H ∧ TabsK K G ∧ RepA K G vs ds ∧ R ds b ∧ ∀ v G' H' as, Grow G H G' H' → New K H G' H' v b as → Q v H'
/-- __init__: self a new object without fields -/
def spI (K : PySem.W.Frag) (C : Addr) (n : Nat) (R : List D → List (Str × Ch) → Prop) : Sp := fun vs H Q _ => ∃ (p dx : Addr) (ws : List V) (G H0 : Hp) (ds : List D) (fs : List (Str × Ch)), vs = .ref p :: ws ∧ ds.length = n ∧ H = upd H0 p (.ins C dx []) ∧ H0 p = none ∧ Same G H0 ∧ TabsK K G ∧ RepA K G ws ds ∧ R ds fs ∧
  ∀ G' H' as, Grow G H0 G' H' → New K H0 G' H' (.ref p) (.oo (some p) C fs) as → Q .non H'
def startB (n : Nat) (ds : List D) : List B := ds.map B.im ++ List.replicate (n - ds.length) B.no
theorem sl_start {G : Hp} {N : List Str} {vs : List V} {ds : List D} (tb : TabsK K G) (r : RepA K G vs ds) : Sl K G (L2.start N vs) (startB N.length ds) := ⟨fun i d h => by
  unfold startB at h
  rw [List.getElem?_append] at h
  split at h
  · rename_i hi
    rw [List.getElem?_map] at h
    cases e : ds[i]? with
    | none =>
      rw [e] at h
      cases h
    | some z =>
      rw [e] at h
      cases h
      obtain ⟨v, h1, h2⟩ := r.at e
      refine ⟨v, ?_, h2⟩
      unfold L2.start
      rw [List.getElem?_append_left (by rw [List.length_map]; exact (List.getElem?_eq_some_iff.mp h1).1), List.getElem?_map, h1]
      rfl
  · rw [List.getElem?_replicate] at h
    split at h
    · cases h
    · cases h
    done, by
  unfold L2.start startB
  rw [List.length_append, List.length_append, List.length_map, List.length_map, List.length_replicate, List.length_replicate, r.len], tb⟩
theorem start_im {n : Nat} {ds : List D} {i : Nat} {b : B} (h : (startB n ds)[i]? = some b) (hb : b ≠ .no) : ∃ d, b = .im d := by
  unfold startB at h
  rw [List.getElem?_append] at h
  split at h
  · rw [List.getElem?_map] at h
    cases e : ds[i]? with
    | none =>
      rw [e] at h
      cases h
    | some z =>
      rw [e] at h
      cases h
      exact ⟨_, rfl⟩
  · rw [List.getElem?_replicate] at h
    split at h
    · cases h
      exact (hb rfl).elim
    · cases h
theorem env_start {G H : Hp} {N : List Str} {vs : List V} {ds : List D} (e : Same G H) (tb : TabsK K G) (r : RepA K G vs ds) : EnvD K ⟨G, H⟩ G H (L2.start N vs) (startB N.length ds) :=
  ⟨fun _ => [], Grow.refl e, (sl_start (N := N) tb r).len, fun i b h hb => by
    obtain ⟨d, rfl⟩ := start_im h hb
    obtain ⟨v, h1, h2⟩ := (sl_start (N := N) tb r).im i d h
    exact ⟨v, h1, .im h2⟩, fun _ _ m => (List.not_mem_nil m).elim, fun _ _ _ _ m => (List.not_mem_nil m).elim, fun _ => List.nodup_nil, tb⟩
theorem ds_run {t : TS} {N : List Str} {R : List D → D → Prop} {vs : List V} {H : Hp} {Q : VK} {E : XK} (h : ∀ ds d, R ds d → DS K t (startB N.length ds) { nx := fun _ => d = .non, rt := fun r => r = d }) {n : Nat} (q : spR K n R vs H Q E) :
    t { nx := fun _ H' => Q .non H', rt := Q } (L2.start N vs) H := by
  obtain ⟨G, ds, d, _, e, tb, r, hR, k⟩ := q
  refine h ds d hR ⟨G, H⟩ _ G H _ (env_start e tb r) ⟨?_, ?_, ?_, ?_, ?_⟩
  · intro Γ σ G' H' z e'
    have z' : d = .non := z
    exact k .non G' H' e'.gr (by rw [z']; exact .non)
  · intro _ _ _ _ z
    exact z.elim
  · intro _ _ _ _ z
    exact z.elim
  · intro d' v G' H' z gr r'
    have z' : d' = d := z
    rw [← z'] at k
    exact k v G' H' gr r'
  · intro _ _ _ _ _ z
    exact z.elim
theorem ds_runO {t : TS} {N : List Str} {R : List D → B → Prop} {vs : List V} {H : Hp} {Q : VK} {E : XK} (h : ∀ ds d, R ds d → DS K t (startB N.length ds) { nx := fun _ => False, rt := fun _ => False, ro := fun r => r = d }) {n : Nat} (q : spO K n R vs H Q E) :
    t { nx := fun _ H' => Q .non H', rt := Q } (L2.start N vs) H := by
  obtain ⟨G, ds, d, _, e, tb, r, hR, k⟩ := q
  refine h ds d hR ⟨G, H⟩ _ G H _ (env_start e tb r) ⟨?_, ?_, ?_, ?_, ?_⟩
  · intro _ _ _ _ z
    exact z.elim
  · intro _ _ _ _ z
    exact z.elim
  · intro _ _ _ _ z
    exact z.elim
  · intro _ _ _ _ z
    exact z.elim
  · intro d' v as G' H' z gr r'
    have z' : d' = d := z
    rw [← z'] at k
    exact k v G' H' as gr r'
theorem pure_ok {P : Program} {w : World} {K : PySem.W.Frag} {mg : Str → Option Value} {base : Heap} {x qual : Str} {st : Stmt} {f : Addr} {fd : FuncData} {N ps : List Str} {k n : Nat} {R : List D → D → Prop} (F : Fun K x qual st f fd) (S : FnScope N ps (defScope st)) (hn : ps.length = n)
    (hb : ∀ (cdv : Value) (A : Around) (outer : List Env) (s : Shared) (H : Hp) (E : XK), Room k (A.deeper (envOfC qual (defScope st) s.heap.objs.size f cdv)) →
      ∃ t, PSs (cxOf CX0 P w K mg base N qual (defScope st) f cdv A outer s H E).nox (defBody st) t ∧ ∀ ds d, R ds d → DS K t (startB N.length ds) { nx := fun _ => d = .non, rt := fun r => r = d }) :
    FnOk P w K mg base CX0 (k + 1) f fd ps (spR K n R) :=
  F.ok S (fun vs H Q E h => by
    obtain ⟨G, ds, d, h1, _, _, r, _⟩ := h
    rw [r.len, h1, hn]) fun cdv A outer s H vs Q E hr h => by
    obtain ⟨t, h1, h2⟩ := hb cdv A outer s H E hr
    exact ⟨t, h1, ds_run h2 h⟩
theorem pure_okO {P : Program} {w : World} {K : PySem.W.Frag} {mg : Str → Option Value} {base : Heap} {x qual : Str} {st : Stmt} {f : Addr} {fd : FuncData} {N ps : List Str} {k n : Nat} {R : List D → B → Prop} (F : Fun K x qual st f fd) (S : FnScope N ps (defScope st)) (hn : ps.length = n)
    (hb : ∀ (cdv : Value) (A : Around) (outer : List Env) (s : Shared) (H : Hp) (E : XK), Room k (A.deeper (envOfC qual (defScope st) s.heap.objs.size f cdv)) →
      ∃ t, PSs (cxOf CX0 P w K mg base N qual (defScope st) f cdv A outer s H E).nox (defBody st) t ∧ ∀ ds d, R ds d → DS K t (startB N.length ds) { nx := fun _ => False, rt := fun _ => False, ro := fun r => r = d }) :
    FnOk P w K mg base CX0 (k + 1) f fd ps (spO K n R) :=
  F.ok S (fun vs H Q E h => by
    obtain ⟨G, ds, d, h1, _, _, r, _⟩ := h
    rw [r.len, h1, hn]) fun cdv A outer s H vs Q E hr h => by
    obtain ⟨t, h1, h2⟩ := hb cdv A outer s H E hr
    exact ⟨t, h1, ds_runO h2 h⟩
theorem env_startI {G H0 : Hp} {N : List Str} {p C dx : Addr} {ws : List V} {ds : List D} (hN : 0 < N.length) (e : Same G H0) (hp : H0 p = none) (tb : TabsK K G) (r : RepA K G ws ds) :
    EnvD K ⟨G, H0⟩ G (upd H0 p (.ins C dx [])) (L2.start N (.ref p :: ws)) (.oo (some p) C [] :: startB (N.length - 1) ds) := by
  have hs : L2.start N (.ref p :: ws) = some (.ref p) :: L2.start N.tail ws := by
    unfold L2.start
    rw [List.map_cons, List.length_cons, List.length_tail]
    show some (V.ref p) :: (List.map some ws ++ List.replicate (N.length - (ws.length + 1)) none) = _
    rw [show N.length - (ws.length + 1) = N.length - 1 - ws.length by omega]
  have hl : N.tail.length = N.length - 1 := List.length_tail
  have q := sl_start (N := N.tail) tb r
  rw [hl] at q
  refine ⟨fun i => if i = 0 then [p] else [], (Grow.refl e).mut hp (none_back e hp) (fun u hu => by rw [hp] at hu; cases hu), by rw [hs, List.length_cons, List.length_cons, q.len], fun i b h hb => ?_, fun i a m => ?_, fun i j a hij m1 m2 => ?_, fun i => ?_, tb⟩
  · match i, h with
    | 0, h =>
      cases h
      exact ⟨.ref p, by rw [hs]; rfl, by rw [if_pos rfl]; exact .oo (fun q z => by cases z; rfl) upd_same .nil⟩
    | i + 1, h =>
      have h' : (startB (N.length - 1) ds)[i]? = some b := h
      obtain ⟨d, rfl⟩ := start_im h' hb
      obtain ⟨v, h1, h2⟩ := q.im i d h'
      exact ⟨v, by rw [hs]; exact h1, by rw [if_neg (by omega)]; exact .im h2⟩
  · split at m
    · rw [List.mem_singleton.mp m]
      exact ⟨hp, none_back e hp, _, upd_same, trivial⟩
    · cases m
  · split at m1
    · split at m2
      · omega
      · cases m2
    · cases m1
  · split
    · exact List.nodup_cons.mpr ⟨by simp, List.nodup_nil⟩
    · exact List.nodup_nil
theorem pure_okI {P : Program} {w : World} {K : PySem.W.Frag} {mg : Str → Option Value} {base : Heap} {x qual : Str} {st : Stmt} {f : Addr} {fd : FuncData} {N ps : List Str} {k n : Nat} {C : Addr} {R : List D → List (Str × Ch) → Prop} (F : Fun K x qual st f fd) (S : FnScope N ps (defScope st)) (hn : ps.length = n + 1) (hN : 0 < N.length)
    (hb : ∀ (cdv : Value) (A : Around) (outer : List Env) (s : Shared) (H : Hp) (E : XK), Room k (A.deeper (envOfC qual (defScope st) s.heap.objs.size f cdv)) →
      ∃ t, PSs (cxOf CX0 P w K mg base N qual (defScope st) f cdv A outer s H E).nox (defBody st) t ∧ ∀ p ds fs, R ds fs → DS K t (.oo (some p) C [] :: startB (N.length - 1) ds) { nx := fun Γ => Γ[0]? = some (.oo (some p) C fs), rt := fun _ => False }) :
    FnOk P w K mg base CX0 (k + 1) f fd ps (spI K C n R) :=
  F.ok S (fun vs H Q E h => by
    obtain ⟨p, dx, ws, G, H0, ds, fs, rfl, h1, _, _, _, _, r, _⟩ := h
    rw [List.length_cons, r.len, h1, hn]) fun cdv A outer s H vs Q E hr h => by
    obtain ⟨t, h1, h2⟩ := hb cdv A outer s H E hr
    obtain ⟨p, dx, ws, G, H0, ds, fs, rfl, hl, rfl, hp, e, tb, r, hR, q⟩ := h
    refine ⟨t, h1, h2 p ds fs hR ⟨G, H0⟩ _ G _ _ (env_startI hN e hp tb r) ⟨?_, ?_, ?_, ?_, ?_⟩⟩
    · rintro Γ σ G' H' z ⟨A', e'⟩
      have z' : Γ[0]? = some (.oo (some p) C fs) := z
      obtain ⟨v, v1, v2⟩ := e'.at_ 0 _ z' (fun z => by cases z)
      have hv : v = .ref p := by
        generalize A' 0 = as at v2
        cases v2 with
        | oo t _ _ => rw [← t p rfl]
      subst hv
      exact q G' H' (A' 0) e'.gr ⟨v2, e'.nd 0, fun a m => ⟨(e'.fr 0 a m).1, (e'.fr 0 a m).2.1⟩⟩
    · intro _ _ _ _ z
      exact z.elim
    · intro _ _ _ _ z
      exact z.elim
    · intro _ _ _ _ z
      exact z.elim
    · intro _ _ _ _ _ z
      exact z.elim
theorem de_call {R : List D → D → Prop} {E : XK} {ta : TA} {Γ : List B} {ds : List D} {d : D} {n : Nat} (h : DAr K ta Γ ds) (hR : R ds d) (hn : ds.length = n) : DE K (tCall (spR K n R) [] E ta) Γ d := fun σ G H e s Q q =>
  h σ G H e s _ fun vs G1 H1 g1 r1 => ⟨G1, ds, d, hn, g1.i, s.tb.mono g1.g, by rw [List.append_nil]; exact r1, hR, fun v G' H' g r => q v G' H' (g1.trans g) r⟩
theorem New.back {H0 H G' H' : Hp} {v : V} {b : B} {as : List Addr} (n : New K H G' H' v b as) (h : Same H0 H) : New K H0 G' H' v b as := ⟨n.o, n.nd, fun a m => ⟨none_back h (n.fr a m).1, (n.fr a m).2⟩⟩
theorem dx_call {R : List D → B → Prop} {E : XK} {ta : TA} {Γ : List B} {ds : List D} {b : B} {n : Nat} (h : DAr K ta Γ ds) (hR : R ds b) (hn : ds.length = n) : DX K (tCall (spO K n R) [] E ta) Γ b := fun σ G H e s Q q =>
  h σ G H e s _ fun vs G1 H1 g1 r1 => ⟨G1, ds, b, hn, g1.i, s.tb.mono g1.g, by rw [List.append_nil]; exact r1, hR, fun v G' H' as g r => q v G' H' as (g1.trans g) (r.back g1.h)⟩
theorem dx_make {R : List D → List (Str × Ch) → Prop} {E : XK} {ta : TA} {Γ : List B} {C : Addr} {ds : List D} {fs : List (Str × Ch)} {n : Nat} (h : DAr K ta Γ ds) (hR : R ds fs) (hn : ds.length = n) : DX K (tMake C (spI K C n R) [] E ta) Γ (.oo none C fs) := fun σ G H e s Q q =>
  h σ G H e s _ fun vs G1 H1 g1 r1 x dx hx hdx hne => by
    have s1 : Same H1 (upd H1 dx (.own x)) := same_new hdx
    have hx2 : (upd H1 dx (HO.own x)) x = none := by
      rw [upd_ne hne.symm]
      exact hx
    refine ⟨x, dx, vs, G1, upd H1 dx (.own x), ds, fs, by rw [List.append_nil], hn, rfl, hx2, g1.i.trans s1, s.tb.mono g1.g, r1, hR, fun G' H' as g n => ⟨rfl, ?_⟩⟩
    have n1 := n.back s1
    refine q (.ref x) G' H' as (g1.trans ⟨g.g, g.i, s1.trans g.h, fun a a1 a2 => g.u a a1 fun z => a2 (none_back s1 z)⟩) ⟨?_, n1.nd, fun a m => ⟨none_back g1.h (n1.fr a m).1, (n1.fr a m).2⟩⟩
    generalize hA : as = as' 
    have o := n1.o
    rw [hA] at o
    cases o with
    | oo t h r => exact .oo (fun _ z => by cases z) h r
end DL

/-! DP: operators and built-ins over plain data. -/
namespace DL
open PySem PySem.Spec PyProof.Rows L2
variable {K : PySem.W.Frag}

/-! ## operators: two readings in one -/
def rOr (r r' : R2) : R2 := fun x y H Q => r x y H Q ∨ r' x y H Q
section
variable {X : Cx} {f : Value → Value → Sem Value} {r r' : R2}
theorem opr_or (h : OpR X f r) (h' : OpR X f r') : OpR X f (rOr r r') := fun pins s σ H x y v u Q I rx ry k => by
  rcases k with k | k
  · exact h pins s σ H x y v u Q I rx ry k
  · exact h' pins s σ H x y v u Q I rx ry k
def CMulX (i j : Int) : Prop := CMul i j ∨ i.natAbs.log2 + j.natAbs.log2 < 100000000
theorem CMulX.ok {i j : Int} (h : CMulX i j) : IntMulOk i j := by
  rcases h with h | h
  · exact h.ok
  · have b : ∀ z : Int, Builtin.Int.intBits z ≤ z.natAbs.log2 + 1 := fun z => by
      unfold Builtin.Int.intBits
      split <;> omega
    have b1 := b i
    have b2 := b j
    have line : bitsLine = 134217728 := by decide
    unfold IntMulOk
    intro z
    rw [Bool.and_eq_true] at z
    have z2 := z.2
    unfold Builtin.Int.intTooBig at z2
    have z3 := of_decide_eq_true z2
    rw [line] at z3
    omega
theorem op_mulX : OpR X (binaryOp .Mult) (rI CMulX fun i j => .int (i * j)) := opI fun _ _ _ _ _ _ _ hc q => mul_int q hc.ok
theorem lst_get {pins : List (Addr × Obj)} {s : Shared} {σ : L2.St} {H : Hp} {l : Addr} {xs : List V} (I : Inv X pins σ H s) (h : LsX X.K H l xs) :
    xs.length ≤ sizeLine ∧ ∃ (its : List Value) (n : Nat), Vals xs its ∧ xs.length = its.length ∧ s.heap.get? l = some { cls := .type "list", data := .seq its.toArray n } := by
  rcases h with h | ⟨its, n, h1, h2, h3⟩
  · obtain ⟨z, its, n, r, e⟩ := h.ok I.hok
    exact ⟨z, its, n, r, r.length, e⟩
  · have q := h3.length
    have q2 : its.toList.length = its.size := Array.length_toList
    exact ⟨by omega, its.toList, n, h3, h3.length, by rw [I.kIn l _ h1, Array.toArray_toList]⟩
/-- list + list -/
def rCatX (K : PySem.W.Frag) : R2 := fun x y H Q => ∃ l b xs zs, x = .ref l ∧ y = .ref b ∧ LsX K H l xs ∧ LsX K H b zs ∧ xs.length + zs.length ≤ sizeLine ∧ ∀ p, H p = none → Q (.ref p) (upd H p (.lst (xs ++ zs)))
theorem op_catX : OpR X (binaryOp .Add) (rCatX X.K) := by
  intro pins s σ H x y v u Q I rx ry h
  obtain ⟨l, b, xs, zs, rfl, rfl, hl, hb, hz, q⟩ := h
  cases rx
  cases ry
  obtain ⟨_, i1, n1, r1, l1, e1⟩ := lst_get I hl
  obtain ⟨_, i2, n2, r2, l2, e2⟩ := lst_get I hb
  refine PySem.P.add_list e1 e2 ?_ (by rw [List.size_toArray, List.size_toArray, ← l1, ← l2]; exact hz)
  rw [show i1.toArray ++ i2.toArray = (i1 ++ i2).toArray by simp]
  exact ⟨.ref _, _, I.lnew (t' := s.toks) (r1.append r2) (by rw [List.length_append]; exact hz), rfl, q _ I.fresh⟩
def rAddX (K : PySem.W.Frag) : R2 := rOr (rI0 fun i j => .int (i + j)) (rCatX K)
theorem addK (K : PySem.W.Frag) (h : X.K = K := by rfl) : OpR X (binaryOp .Add) (rAddX K) := h ▸ opr_or op_add op_catX
/-- list * int: a list that stands unlocked -/
def rRepX (K : PySem.W.Frag) : R2 := fun x y H Q => ∃ l k xs, x = .ref l ∧ y = .int k ∧ LsX K H l xs ∧ -(2 ^ 63) ≤ k ∧ k < 2 ^ 63 ∧ xs.length * k.toNat ≤ sizeLine ∧ ∀ p, H p = none → Q (.ref p) (upd H p (.lst (List.replicate k.toNat xs).flatten))
theorem op_repX : OpR X (binaryOp .Mult) (rRepX X.K) := by
  intro pins s σ H x y v u Q I rx ry h
  obtain ⟨l, k, xs, rfl, rfl, hh, lo, hi, hz, q⟩ := h
  cases rx
  obtain ⟨t, rfl⟩ := ry
  obtain ⟨_, its, n, r, hl, e⟩ := lst_get I hh
  have many : its.toArray.size * k.toNat ≤ sizeLine := by rw [List.size_toArray, ← hl]; exact hz
  have cap : ¬ its.toArray.size * k.toNat > (2 ^ 63 - 1) / 8 := by
    have line : (sizeLine : Nat) ≤ (2 ^ 63 - 1) / 8 := by decide
    omega
  have fits : ¬ (!Builtin.List.listFitsIndex k) = true := by rw [fitsIndex_both lo hi]; exact Bool.false_ne_true
  have long : ¬ Builtin.List.listTooLong (its.toArray.size * k.toNat) = true := by rw [notLongL many]; exact Bool.false_ne_true
  have made : List.foldl (fun x1 x2 => x1 ++ x2) #[] (List.replicate (if its.toArray.isEmpty = true then 0 else k.toNat) its.toArray) = (List.replicate k.toNat its).flatten.toArray := by
    have all : ∀ m : Nat, List.foldl (fun x1 x2 => x1 ++ x2) #[] (List.replicate m its.toArray) = (List.replicate m its).flatten.toArray := fun m => by
      have z := foldl_rep its m []
      rwa [List.nil_append] at z
    rw [all]
    cases its with
    | nil => simp
    | cons a r2 => rw [if_neg (by simp)]
  refine wpAny_binaryOp_repeat_ref (T := "list") (U := "int") (by decide) ⟨_, e, rfl⟩ (fun s2 => typeIs_int s2 k t) noFill_list_mul PySem.F.fills_int_mul PySem.F.slot_int_rmul repeat_list PySem.F.slot_int_index.lookup
    (call_meets PySem.F.slot_int_rmul (typeIs_int s k t) PySem.F.entry_int_rmul (PySem.F.args_int_rmul_2 _ _) (int___rmul___int_list k t l its.toArray n)
      ⟨e, rfl, ⟨_, e, rfl⟩, call_meets PySem.F.slot_list_mul ⟨_, e, rfl⟩ PySem.F.entry_list_mul (PySem.F.args_list_mul_2 _ _) (AutoListH.list___mul___list_int_3 l its.toArray n k t fits cap long) ⟨e, ?_⟩⟩)
  rw [made]
  exact ⟨.ref _, _, I.lnew (t' := s.toks) (r.rep k.toNat) (by rw [PyProof.Rows.lm_len_rep_flat, Nat.mul_comm]; exact hz), rfl, q _ I.fresh⟩
def rMulX (K : PySem.W.Frag) : R2 := rOr (rI CMulX fun i j => .int (i * j)) (rRepX K)
theorem mulK (K : PySem.W.Frag) (h : X.K = K := by rfl) : OpR X (binaryOp .Mult) (rMulX K) := h ▸ opr_or op_mulX op_repX
end

/-! ## the written part by its name -/
def rLenX (K : PySem.W.Frag) : List V → Hp → VK → Prop := fun xs H Q => ∃ p ys, xs = [.ref p] ∧ (SqL K H p ys ∨ SqT K H p ys) ∧ Q (.int ys.length) H
def rListX (K : PySem.W.Frag) : List V → Hp → VK → Prop := fun xs H Q => ∃ p ys, xs = [.ref p] ∧ (SqL K H p ys ∨ SqT K H p ys) ∧ ∀ l, H l = none → Q (.ref l) (upd H l (.lst ys))
section
variable {X : Cx}
theorem isiK (K : PySem.W.Frag) (h : X.K = K := by rfl) : CallR X (.builtin "isinstance") (rIsi K) := h ▸ call_isi
theorem lenK (K : PySem.W.Frag) (h : X.K = K := by rfl) : CallR X (.builtin "len") (rLenX K) := h ▸ (show CallR X _ (rLenX X.K) from call_len_seq)
theorem listK (K : PySem.W.Frag) (h : X.K = K := by rfl) : CallR X (.type "list") (rListX K) := h ▸ (show CallR X _ (rListX X.K) from call_list_of)
theorem sumK (K : PySem.W.Frag) (hc : X.calm = true) (h : X.K = K := by rfl) : CallR X (.builtin "sum") (rSum K) := h ▸ cr_sum hc
theorem allK (K : PySem.W.Frag) (hc : X.calm = true) (h : X.K = K := by rfl) : CallR X (.builtin "all") (rAll K) := h ▸ cr_all hc
theorem anyK (K : PySem.W.Frag) (hc : X.calm = true) (h : X.K = K := by rfl) : CallR X (.builtin "any") (rAny K) := h ▸ cr_any hc
theorem maxK (K : PySem.W.Frag) (hc : X.calm = true) (h : X.K = K := by rfl) : CallR X (.builtin "max") (rMax K) := h ▸ cr_max hc
theorem minK (K : PySem.W.Frag) (hc : X.calm = true) (h : X.K = K := by rfl) : CallR X (.builtin "min") (rMin K) := h ▸ cr_min hc
theorem sortedK (K : PySem.W.Frag) (h : X.K = K := by rfl) : CallR X (.builtin "sorted") (rSortedI K) := h ▸ cr_sortedI
theorem ixK (K : PySem.W.Frag) (h : X.K = K := by rfl) : IxR X (rIx K) := h ▸ ix_seq
theorem eqK (K : PySem.W.Frag) (hu : X.A.units + 64 < cLine) (h : X.K = K := by rfl) : OpR X (compareOp .Eq) (rEqD K) := h ▸ op_eqD hu
theorem neK (K : PySem.W.Frag) (hu : X.A.units + 64 < cLine) (h : X.K = K := by rfl) : OpR X (compareOp .NotEq) (rNeD K) := h ▸ op_neD hu
theorem inK (K : PySem.W.Frag) (h : X.K = K := by rfl) : OpR X (compareOp .In) (rIn K false) := h ▸ op_in_seq
theorem notInK (K : PySem.W.Frag) (h : X.K = K := by rfl) : OpR X (compareOp .NotIn) (rIn K true) := h ▸ op_notIn_seq
theorem sliceK (K : PySem.W.Frag) (h : X.K = K := by rfl) : SlR X (rSlL K) := h ▸ sl_list
theorem revK (K : PySem.W.Frag) {e : Expr} {te : TE} {k : Nat} {p1 p2 p3 pos : Pos} (he : PE X e te) (h : X.K = K := by rfl) : PE X (.Subscript e (.Slice none none (some (.UnaryOp .USub (.Constant (.int 1) k p1) p2)) p3) pos) (tRevL K te) := h ▸ pe_revL he
theorem pi_listK (K : PySem.W.Frag) {tg l : Expr} {tl : TE} (hl : PE X l tl) (h : X.K = K := by rfl) : PI X tg l (iList K tl) := h ▸ pi_list hl
theorem pi_tupK (K : PySem.W.Frag) {tg l : Expr} {tl : TE} (hl : PE X l tl) (h : X.K = K := by rfl) : PI X tg l (iTup K tl) := h ▸ pi_tup hl
theorem pg_tupK (K : PySem.W.Frag) {es : List Expr} {k : Nat} {pos : Pos} {t : TGs} {n : Nat} (hc : X.calm = true) (hg : PGs X es t) (h : X.K = K := by rfl)
    (hn : (assignEach es X.env).length = n := by rfl) (hst : (assignEach es X.env).findIdx? (·.1) = none := by rfl) : PG X (.Tuple es k pos) (gTup K n t) := h ▸ pg_tup hc hg hn hst
theorem pi_enumK (K : PySem.W.Frag) {e : Expr} {ta : TA} {p pos tpos : Pos} {elts : List Expr} {kk : Nat} (hg : Gl X "enumerate") (hm : X.mg "enumerate" = none) (ha : PA X [e] ta) (h : X.K = K := by rfl) (hs : starEach [e] X.env = [(false, eval e X.env)] := by rfl) :
    PI X (.Tuple elts kk tpos) (.Call (.Name "enumerate" p) [e] [] pos) (iEnum K ta) := h ▸ pi_enum hg hm ha hs
theorem pi_zipK (K : PySem.W.Frag) {e e2 : Expr} {ta : TA} {p pos tpos : Pos} {elts : List Expr} {kk : Nat} (hg : Gl X "zip") (hm : X.mg "zip" = none) (ha : PA X [e, e2] ta) (h : X.K = K := by rfl)
    (hs : starEach [e, e2] X.env = (false, eval e X.env) :: starEach [e2] X.env := by rfl) (hpl : (backTo pos (starEach [e2] X.env)).any (·.1) = false := by rfl) :
    PI X (.Tuple elts kk tpos) (.Call (.Name "zip" p) [e, e2] [] pos) (iZip K ta) := h ▸ pi_zip hg hm ha hs hpl
theorem pi_revK (K : PySem.W.Frag) {tg e : Expr} {ta : TA} {p pos : Pos} (hg : Gl X "reversed") (hm : X.mg "reversed" = none) (ha : PA X [e] ta) (h : X.K = K := by rfl) (hs : starEach [e] X.env = [(false, eval e X.env)] := by rfl) :
    PI X tg (.Call (.Name "reversed" p) [e] [] pos) (iRev K ta) := h ▸ pi_reversed hg hm ha hs
theorem fldK (K : PySem.W.Frag) {e : Expr} {te : TE} {f : Str} {pos : Pos} (he : PE X e te) (hb : attributeBase e f X.env (eval e X.env) = eval e X.env) (h : X.K = K := by rfl) : PE X (.Attribute e f pos) (tFld K te f) := h ▸ pe_fld he hb
end

/-! ## by data -/
section
variable {K : PySem.W.Frag}
theorem r2_I0 {g : Int → Int → V} {i j : Int} {d : D} (h : ∀ G, Rep K G (g i j) d) : R2D K (rI0 g) (.int i) (.int j) d := fun x y G H e r1 r2 Q q => by
  cases r1
  cases r2
  exact ⟨i, j, rfl, rfl, q _ G H (Grow.refl e) (h G)⟩
theorem r2_I {C : Int → Int → Prop} {g : Int → Int → V} {i j : Int} {d : D} (hc : C i j) (h : ∀ G, Rep K G (g i j) d) : R2D K (rI C g) (.int i) (.int j) d := fun x y G H e r1 r2 Q q => by
  cases r1
  cases r2
  exact ⟨i, j, rfl, rfl, hc, q _ G H (Grow.refl e) (h G)⟩
theorem r2_or1 {r r' : R2} {d e f : D} (h : R2D K r d e f) : R2D K (rOr r r') d e f := fun x y G H s r1 r2 Q q => .inl (h x y G H s r1 r2 Q q)
theorem r2_or2 {r r' : R2} {d e f : D} (h : R2D K r' d e f) : R2D K (rOr r r') d e f := fun x y G H s r1 r2 Q q => .inr (h x y G H s r1 r2 Q q)
theorem r2_add {i j : Int} : R2D K (rAddX K) (.int i) (.int j) (.int (i + j)) := r2_or1 (r2_I0 fun _ => .int _)
theorem r2_cat {a b : List D} (h : a.length + b.length ≤ 100000) : R2D K (rAddX K) (.lst a) (.lst b) (.lst (a ++ b)) := r2_or2 fun x y G H e r1 r2 Q q => by
  cases r1 with
  | lst h1 a1 =>
    cases r2 with
    | lst h2 a2 =>
      refine ⟨_, _, _, _, rfl, rfl, ls_same e h1, ls_same e h2, ?_, fun p hp => q _ _ _ (Grow.new e hp) (.lst (LsX.of upd_same) ((a1.app a2).mono (same_new (none_back e hp))))⟩
      rw [a1.len, a2.len]
      exact Nat.le_trans h (by decide)
theorem r2_sub {i j : Int} : R2D K (rI0 fun i j => .int (i - j)) (.int i) (.int j) (.int (i - j)) := r2_I0 fun _ => .int _
theorem r2_mul {i j : Int} (h : CMulX i j) : R2D K (rMulX K) (.int i) (.int j) (.int (i * j)) := r2_or1 (r2_I h fun _ => .int _)
theorem r2_rep {a : List D} {k : Int} (h0 : 0 ≤ k ∧ k ≤ 100000) (h : a.length * k.toNat ≤ 100000) : R2D K (rMulX K) (.lst a) (.int k) (.lst (List.replicate k.toNat a).flatten) := r2_or2 fun x y G H e r1 r2 Q q => by
  cases r2
  cases r1 with
  | lst h1 a1 =>
    refine ⟨_, _, _, rfl, rfl, ls_same e h1, by omega, by omega, ?_, fun p hp => q _ _ _ (Grow.new e hp) (.lst (LsX.of upd_same) ((a1.reps k.toNat).mono (same_new (none_back e hp))))⟩
    rw [a1.len]
    exact Nat.le_trans h (by decide)
/-- one thing, many times -/
theorem r2_rep1 {d : D} {n : Nat} (h : n ≤ 100000) : R2D K (rMulX K) (.lst [d]) (.int (n : Int)) (.lst (List.replicate n d)) := by
  have q := r2_rep (K := K) (a := [d]) (k := (n : Int)) ⟨by omega, by omega⟩ (by rw [Int.toNat_natCast, List.length_singleton]; omega)
  rw [Int.toNat_natCast] at q
  have e : ∀ m : Nat, (List.replicate m [d]).flatten = List.replicate m d := fun m => by
    induction m with
    | zero => rfl
    | succ m ih => rw [List.replicate_succ, List.flatten_cons, ih]; rfl
  rwa [e] at q
theorem r2_fdiv {i j : Int} (h : CDivW i j) : R2D K (rI CDivW fun i j => .int (i / j)) (.int i) (.int j) (.int (i / j)) := r2_I h fun _ => .int _
theorem r2_mod {i j : Int} (h : 0 < j) : R2D K (rI (fun _ j => 0 < j) fun i j => .int (i % j)) (.int i) (.int j) (.int (i % j)) := r2_I h fun _ => .int _
theorem r2_pow {i j : Int} (h : CPow i j) : R2D K (rI CPow fun i j => .int (i ^ j.toNat)) (.int i) (.int j) (.int (i ^ j.toNat)) := r2_I h fun _ => .int _
theorem r2_lt {i j : Int} : R2D K (rI0 fun i j => .bl (decide (i < j))) (.int i) (.int j) (.bl (decide (i < j))) := r2_I0 fun _ => .bl _
theorem r2_le {i j : Int} : R2D K (rI0 fun i j => .bl (decide (i ≤ j))) (.int i) (.int j) (.bl (decide (i ≤ j))) := r2_I0 fun _ => .bl _
theorem r2_gt {i j : Int} : R2D K (rI0 fun i j => .bl (decide (j < i))) (.int i) (.int j) (.bl (decide (j < i))) := r2_I0 fun _ => .bl _
theorem r2_ge {i j : Int} : R2D K (rI0 fun i j => .bl (decide (j ≤ i))) (.int i) (.int j) (.bl (decide (j ≤ i))) := r2_I0 fun _ => .bl _
theorem r1_neg {i : Int} : R1D K (rU fun i => .int (-i)) (.int i) (.int (-i)) := fun x G H e r Q q => by
  cases r
  exact ⟨i, rfl, q _ G H (Grow.refl e) (.int _)⟩
theorem r2_isB {a b : Bool} : R2D K rIsB (.bl a) (.bl b) (.bl (decide (a = b))) := fun x y G H e r1 r2 Q q => by
  cases r1
  cases r2
  exact ⟨a, b, rfl, rfl, q _ G H (Grow.refl e) (.bl _)⟩
theorem r2_notB {a b : Bool} : R2D K rNotB (.bl a) (.bl b) (.bl (!decide (a = b))) := fun x y G H e r1 r2 Q q => by
  cases r1
  cases r2
  exact ⟨a, b, rfl, rfl, q _ G H (Grow.refl e) (.bl _)⟩

/-! ## equality -/
mutual
def py : D → PyData
  | .bl b => .bool b
  | .int i => .int i
  | .str z => .str z
  | .lst ds => .list (pyA ds)
  | .tup ds => .tuple (pyA ds)
  | .non | .dct | .ins _ _ | .ty _ | .cls _ | .op _ => .none
def pyA : List D → List PyData
  | [] => []
  | d :: ds => py d :: pyA ds
end
/-- numbers, truths, None, in lists and tuples at most n deep -/
def deep : Nat → D → Bool
  | _, .int _ => true
  | _, .bl _ => true
  | _, .non => true
  | n + 1, .lst ds => ds.all (deep n)
  | n + 1, .tup ds => ds.all (deep n)
  | _, _ => false
theorem dp_of {H : Hp} : ∀ (n : Nat) {v : V} {d : D}, Rep K H v d → deep n d = true → Dp K H v (py d) := by
  intro n
  induction n with
  | zero =>
    intro v d r h
    cases r with
    | non => exact .non
    | bl b => exact .bl b
    | int i => exact .int i
    | str z => cases h
    | lst _ _ => cases h
    | tup _ _ => cases h
    | ty _ => cases h
    | cls _ => cases h
    | op _ => cases h
    | dct _ => cases h
    | ins _ _ => cases h
  | succ n ih =>
    have all : ∀ {vs : List V} {ds : List D}, RepA K H vs ds → ds.all (deep n) = true → DpAll K H vs (pyA ds) := fun {vs ds} => by
      intro r
      induction ds generalizing vs with
      | nil =>
        intro _
        cases r
        exact .nil
      | cons d ds ihd =>
        intro h
        rw [List.all_cons, Bool.and_eq_true] at h
        cases r with
        | cons r1 r2 => exact .cons (ih r1 h.1) (ihd r2 h.2)
    intro v d r h
    cases r with
    | non => exact .non
    | bl b => exact .bl b
    | int i => exact .int i
    | str z => cases h
    | lst a b => exact .lst a.sq (all b h)
    | tup a b => exact .tup (Or.inl a) (all b h)
    | ty _ => cases h
    | cls _ => cases h
    | op _ => cases h
    | dct _ => cases h
    | ins _ _ => cases h
theorem lay_of : ∀ (n : Nat) {d : D}, deep n d = true → (py d).canLay0 = true ∧ (py d).depth ≤ n := by
  intro n
  induction n with
  | zero =>
    intro d h
    cases d <;> first | (exact ⟨rfl, Nat.le_refl _⟩) | cases h
  | succ n ih =>
    have all : ∀ {ds : List D}, ds.all (deep n) = true → PyData.canLayAll0 (pyA ds) = true ∧ PyData.depthAll (pyA ds) ≤ n := fun {ds} => by
      induction ds with
      | nil => exact fun _ => ⟨rfl, Nat.zero_le _⟩
      | cons d ds ihd =>
        intro h
        rw [List.all_cons, Bool.and_eq_true] at h
        obtain ⟨h1, h2⟩ := ih h.1
        obtain ⟨h3, h4⟩ := ihd h.2
        refine ⟨?_, ?_⟩
        · show PyData.canLayAll0 (py d :: pyA ds) = true
          rw [PyData.canLayAll0, h1, h3]
          rfl
        · show PyData.depthAll (py d :: pyA ds) ≤ n
          rw [PyData.depthAll]
          omega
    intro d h
    cases d with
    | lst ds =>
      obtain ⟨h1, h2⟩ := all (show ds.all (deep n) = true from h)
      refine ⟨?_, ?_⟩
      · show PyData.canLay0 (.list (pyA ds)) = true
        rw [PyData.canLay0]
        exact h1
      · show PyData.depth (.list (pyA ds)) ≤ n + 1
        rw [PyData.depth]
        omega
    | tup ds =>
      obtain ⟨h1, h2⟩ := all (show ds.all (deep n) = true from h)
      refine ⟨?_, ?_⟩
      · show PyData.canLay0 (.tuple (pyA ds)) = true
        rw [PyData.canLay0]
        exact h1
      · show PyData.depth (.tuple (pyA ds)) ≤ n + 1
        rw [PyData.depth]
        omega
    | non => exact ⟨rfl, Nat.zero_le _⟩
    | bl _ => exact ⟨rfl, Nat.zero_le _⟩
    | int _ => exact ⟨rfl, Nat.zero_le _⟩
    | str _ => cases h
    | dct => cases h
    | ins _ _ => cases h
    | ty _ => cases h
    | cls _ => cases h
    | op _ => cases h
theorem shaped_of {d : D} (n : Nat) (h : deep n d = true) (hn : n ≤ 64) : SeqAt.shaped (py d) = true := by
  obtain ⟨h1, h2⟩ := lay_of n h
  unfold SeqAt.shaped
  rw [h1, decide_eq_true (Nat.le_trans h2 hn)]
  rfl
/-- == of data -/
def qv (d e : D) : Bool := PyData.eqv (py d) (py e)
def qvA (ds es : List D) : Bool := PyData.eqvAll (pyA ds) (pyA es)
theorem r2_eq {d e : D} (n m : Nat) (hd : deep n d = true) (he : deep m e = true) (hn : n ≤ 64 := by decide) (hm : m ≤ 64 := by decide) : R2D K (rEqD K) d e (.bl (qv d e)) := fun x y G H s r1 r2 Q q =>
  ⟨py d, py e, dp_of n (r1.mono s) hd, dp_of m (r2.mono s) he, shaped_of n hd hn, shaped_of m he hm, q _ G H (Grow.refl s) (.bl _)⟩
theorem r2_ne {d e : D} (n m : Nat) (hd : deep n d = true) (he : deep m e = true) (hn : n ≤ 64 := by decide) (hm : m ≤ 64 := by decide) : R2D K (rNeD K) d e (.bl (!qv d e)) := fun x y G H s r1 r2 Q q =>
  ⟨py d, py e, dp_of n (r1.mono s) hd, dp_of m (r2.mono s) he, shaped_of n hd hn, shaped_of m he hm, q _ G H (Grow.refl s) (.bl _)⟩
theorem qv_int (i j : Int) : qv (.int i) (.int j) = decide (i = j) := by
  show (i == j) = decide (i = j)
  rfl
theorem qv_bl (i j : Bool) : qv (.bl i) (.bl j) = decide (i = j) := by
  show (i == j) = decide (i = j)
  rfl
theorem qv_lst (a b : List D) : qv (.lst a) (.lst b) = qvA a b := by
  show PyData.eqv (.list (pyA a)) (.list (pyA b)) = PyData.eqvAll (pyA a) (pyA b)
  rw [PyData.eqv]
theorem qv_tup (a b : List D) : qv (.tup a) (.tup b) = qvA a b := by
  show PyData.eqv (.tuple (pyA a)) (.tuple (pyA b)) = PyData.eqvAll (pyA a) (pyA b)
  rw [PyData.eqv]
theorem qvA_nil : qvA [] [] = true := rfl
theorem qvA_cons (d e : D) (a b : List D) : qvA (d :: a) (e :: b) = (qv d e && qvA a b) := by
  show PyData.eqvAll (py d :: pyA a) (py e :: pyA b) = _
  rw [PyData.eqvAll]
  rfl
theorem qvA_nc (e : D) (b : List D) : qvA [] (e :: b) = false := rfl
theorem qvA_cn (d : D) (a : List D) : qvA (d :: a) [] = false := rfl
theorem qvA_dI : ∀ a b : List Int, qvA (dI a) (dI b) = decide (a = b)
  | [], [] => rfl
  | [], _ :: _ => rfl
  | _ :: _, [] => rfl
  | x :: a, y :: b => by
    show qvA (D.int x :: dI a) (D.int y :: dI b) = _
    rw [qvA_cons, qv_int, qvA_dI a b]
    by_cases h : x = y
    · subst h
      by_cases h2 : a = b
      · subst h2
        simp
      · simp [h2]
    · simp [h]
theorem qv_dI (a b : List Int) : qv (.lst (dI a)) (.lst (dI b)) = decide (a = b) := by rw [qv_lst, qvA_dI]
theorem qv_self {d : D} (n : Nat) (h : deep n d = true) : qv d d = true := PySem.SeqAt.eqv_refl _ (lay_of n h).1
theorem deep_dI (n : Nat) (a : List Int) : deep (n + 1) (.lst (dI a)) = true := by
  show (a.map D.int).all (deep n) = true
  rw [List.all_map]
  exact List.all_eq_true.mpr fun x _ => by
    show deep n (.int x) = true
    cases n <;> rfl

theorem deep_int (n : Nat) (i : Int) : deep n (.int i) = true := by cases n <;> rfl
theorem deep_bl (n : Nat) (i : Bool) : deep n (.bl i) = true := by cases n <;> rfl
theorem r2_eqI {i j : Int} : R2D K (rEqD K) (.int i) (.int j) (.bl (decide (i = j))) := by
  rw [← qv_int]
  exact r2_eq 0 0 rfl rfl
theorem r2_neI {i j : Int} : R2D K (rNeD K) (.int i) (.int j) (.bl (!decide (i = j))) := by
  rw [← qv_int]
  exact r2_ne 0 0 rfl rfl
theorem r2_eqB {i j : Bool} : R2D K (rEqD K) (.bl i) (.bl j) (.bl (decide (i = j))) := by
  rw [← qv_bl]
  exact r2_eq 0 0 rfl rfl
theorem r2_neB {i j : Bool} : R2D K (rNeD K) (.bl i) (.bl j) (.bl (!decide (i = j))) := by
  rw [← qv_bl]
  exact r2_ne 0 0 rfl rfl
theorem r2_eqL {a b : List Int} : R2D K (rEqD K) (.lst (dI a)) (.lst (dI b)) (.bl (decide (a = b))) := by
  rw [← qv_dI]
  exact r2_eq 1 1 (deep_dI 0 a) (deep_dI 0 b)
theorem r2_neL {a b : List Int} : R2D K (rNeD K) (.lst (dI a)) (.lst (dI b)) (.bl (!decide (a = b))) := by
  rw [← qv_dI]
  exact r2_ne 1 1 (deep_dI 0 a) (deep_dI 0 b)
/-- the same on both sides -/
theorem r2_eqS {d : D} (n : Nat) (h : deep n d = true) (hn : n ≤ 64 := by decide) : R2D K (rEqD K) d d (.bl true) := by
  have q := r2_eq (K := K) n n h h hn hn
  rwa [qv_self n h] at q
theorem r2_neS {d : D} (n : Nat) (h : deep n d = true) (hn : n ≤ 64 := by decide) : R2D K (rNeD K) d d (.bl false) := by
  have q := r2_ne (K := K) n n h h hn hn
  rwa [qv_self n h] at q

/-! ## subscripts, slices -/
theorem atI_rep {G : Hp} {vs : List V} {ds : List D} {i : Int} {d : D} (r : RepA K G vs ds) (h : atI ds i = some d) : ∃ v, atI vs i = some v ∧ Rep K G v d := by
  unfold atI at h ⊢
  rw [r.len]
  cases e : ixN ds.length i with
  | none =>
    rw [e] at h
    cases h
  | some j =>
    rw [e] at h
    exact r.at h
theorem r2_ixL {ds : List D} {i : Int} {d : D} (h : atI ds i = some d) : R2D K (rIx K) (.lst ds) (.int i) d := fun x y G H e r1 r2 Q q => by
  cases r2
  cases r1 with
  | lst h1 a1 =>
    obtain ⟨v, h2, h3⟩ := atI_rep a1 h
    exact .inl ⟨_, _, i, v, rfl, rfl, (ls_same e h1).sq, h2, q _ G H (Grow.refl e) h3⟩
theorem r2_ixT {ds : List D} {i : Int} {d : D} (h : atI ds i = some d) : R2D K (rIx K) (.tup ds) (.int i) d := fun x y G H e r1 r2 Q q => by
  cases r2
  cases r1 with
  | tup h1 a1 =>
    obtain ⟨v, h2, h3⟩ := atI_rep a1 h
    exact .inr (.inl ⟨_, _, i, v, rfl, rfl, Or.inl (rd_same e h1), h2, q _ G H (Grow.refl e) h3⟩)
theorem at_nat {α : Type} {xs : List α} {j : Nat} {x : α} (h : xs[j]? = some x) : atI xs (j : Int) = some x := atI_nat h
theorem at_int {α : Type} {xs : List α} {i : Int} {x : α} (h0 : 0 ≤ i) (h : xs[i.toNat]? = some x) : atI xs i = some x := by
  obtain ⟨j, rfl⟩ : ∃ j : Nat, i = (j : Int) := ⟨i.toNat, by omega⟩
  exact atI_nat h
/-- of a list of numbers: the one that stands there -/
theorem r2_ixI {ns : List Int} {i : Int} (h0 : 0 ≤ i) (h : i < ns.length) : R2D K (rIx K) (.lst (dI ns)) (.int i) (.int (ns.getD i.toNat 0)) := r2_ixL (at_int h0 (by
  rw [List.getElem?_map, List.getD_eq_getElem?_getD, List.getElem?_eq_getElem (by omega)]
  rfl))
theorem r2_ixN {ns : List Int} {i : Nat} (h : i < ns.length) : R2D K (rIx K) (.lst (dI ns)) (.int (i : Int)) (.int (ns.getD i 0)) := r2_ixL (atI_nat (by
  rw [List.getElem?_map, List.getD_eq_getElem?_getD, List.getElem?_eq_getElem h]
  rfl))
/-- of a list of anything told by enc -/
theorem r2_ixE {α : Type} {xs : List α} {enc : α → D} {i : Nat} (z : α) (h : i < xs.length) : R2D K (rIx K) (.lst (xs.map enc)) (.int (i : Int)) (enc (xs.getD i z)) := r2_ixL (atI_nat (by
  rw [List.getElem?_map, List.getD_eq_getElem?_getD, List.getElem?_eq_getElem h]
  rfl))
def cutD (ds : List D) (lo hi : Option Int) : List D := (ds.drop (HT.sIx ds.length 0 lo)).take (HT.sIx ds.length ds.length hi - HT.sIx ds.length 0 lo)
theorem de_slice {te : TE} {tl th : TO} {Γ : List B} {ds : List D} {lo hi : Option Int} (h : DE K te Γ (.lst ds)) (h1 : DO K tl Γ lo) (h2 : DO K th Γ hi) : DE K (tSl (rSlL K) te tl th) Γ (.lst (cutD ds lo hi)) := fun σ G H e s Q q =>
  h σ G H e s _ fun v G1 H1 g1 r1 => h1 σ G1 H1 g1.i (s.mono g1.g) _ fun G2 H2 g2 => h2 σ G2 H2 g2.i (s.mono (g1.trans g2).g) _ fun G3 H3 g3 => by
    cases r1 with
    | @lst a vs _ hs b =>
      refine ⟨a, vs, rfl, (ls_same (g1.i.trans (g2.trans g3).h) hs).sq, fun p hp => q _ _ _ (((g1.trans g2).trans g3).trans (Grow.new g3.i hp)) (.lst (LsX.of upd_same) ?_)⟩
      have z : RepA K (upd G3 p (.lst (cutV vs lo hi))) vs ds := (b.mono (g2.trans g3).g).mono (same_new (none_back g3.i hp))
      have zc : RepA K (upd G3 p (.lst (cutV vs lo hi))) (cutV vs lo hi) (cutD ds lo hi) := by
        unfold cutD
        rw [← b.len]
        exact (z.drop _).take _
      exact zc
theorem de_rev {te : TE} {Γ : List B} {ds : List D} (h : DE K te Γ (.lst ds)) : DE K (tRevL K te) Γ (.lst ds.reverse) := fun σ G H e s Q q =>
  h σ G H e s _ fun v G1 H1 g1 r1 => by
    cases r1 with
    | lst a b =>
      exact ⟨_, _, rfl, (ls_same g1.i a).sq, fun p hp => q _ _ _ (g1.trans (Grow.new g1.i hp)) (.lst (LsX.of upd_same) ((b.mono (same_new (none_back g1.i hp))).rev))⟩

/-! ## built-ins -/
def absI (i : Int) : Int := if i < 0 then -i else i
def maxI (i j : Int) : Int := if j > i then j else i
def minI (i j : Int) : Int := if j < i then j else i
theorem rc1 {r : List V → Hp → VK → Prop} {d f : D} (h : ∀ x G H, Same G H → Rep K G x d → ∀ Q : VK, (∀ v G' H', Grow G H G' H' → Rep K G' v f → Q v H') → r [x] H Q) : RCD K r [d] f := fun vs G H e ra Q q => by
  cases ra with
  | cons a b =>
    cases b
    exact h _ G H e a Q q
theorem rc_abs {i : Int} : RCD K (fun xs H Q => ∃ i, xs = [.int i] ∧ Q (.int (if i < 0 then -i else i)) H) [.int i] (.int (absI i)) := rc1 fun x G H e r Q q => by
  cases r
  exact ⟨i, rfl, q _ G H (Grow.refl e) (.int _)⟩
theorem rc_max2 {i j : Int} : RCD K (fun xs H Q => ∃ i j, xs = [.int i, .int j] ∧ Q (.int (if j > i then j else i)) H) [.int i, .int j] (.int (maxI i j)) := fun vs G H e ra Q q => by
  cases ra with
  | cons a b =>
    cases b with
    | cons b c =>
      cases c
      cases a
      cases b
      exact ⟨i, j, rfl, q _ G H (Grow.refl e) (.int _)⟩
theorem rc_min2 {i j : Int} : RCD K (fun xs H Q => ∃ i j, xs = [.int i, .int j] ∧ Q (.int (if j < i then j else i)) H) [.int i, .int j] (.int (minI i j)) := fun vs G H e ra Q q => by
  cases ra with
  | cons a b =>
    cases b with
    | cons b c =>
      cases c
      cases a
      cases b
      exact ⟨i, j, rfl, q _ G H (Grow.refl e) (.int _)⟩
theorem rc_lenL {ds : List D} : RCD K (rLenX K) [.lst ds] (.int (ds.length : Int)) := rc1 fun x G H e r Q q => by
  cases r with
  | lst a b => exact ⟨_, _, rfl, .inl (ls_same e a).sq, q _ G H (Grow.refl e) (by rw [b.len]; exact .int _)⟩
theorem rc_lenT {ds : List D} : RCD K (rLenX K) [.tup ds] (.int (ds.length : Int)) := rc1 fun x G H e r Q q => by
  cases r with
  | tup a b => exact ⟨_, _, rfl, .inr (Or.inl (rd_same e a)), q _ G H (Grow.refl e) (by rw [b.len]; exact .int _)⟩
theorem rc_listL {ds : List D} : RCD K (rListX K) [.lst ds] (.lst ds) := rc1 fun x G H e r Q q => by
  cases r with
  | lst a b => exact ⟨_, _, rfl, .inl (ls_same e a).sq, fun l hl => q _ _ _ (Grow.new e hl) (.lst (LsX.of upd_same) (b.mono (same_new (none_back e hl))))⟩
theorem rc_listT {ds : List D} : RCD K (rListX K) [.tup ds] (.lst ds) := rc1 fun x G H e r Q q => by
  cases r with
  | tup a b => exact ⟨_, _, rfl, .inr (Or.inl (rd_same e a)), fun l hl => q _ _ _ (Grow.new e hl) (.lst (LsX.of upd_same) (b.mono (same_new (none_back e hl))))⟩
theorem rc_sum {ns : List Int} : RCD K (rSum K) [.lst (dI ns)] (.int ns.sum) := rc1 fun x G H e r Q q => by
  cases r with
  | lst a b =>
    cases b.dI_inv
    exact ⟨_, ns, rfl, (ls_same e a).sq, q _ G H (Grow.refl e) (.int _)⟩
theorem rc_all {bs : List Bool} : RCD K (rAll K) [.lst (dB bs)] (.bl (bs.all id)) := rc1 fun x G H e r Q q => by
  cases r with
  | lst a b =>
    cases b.dB_inv
    exact ⟨_, bs, rfl, (ls_same e a).sq, q _ G H (Grow.refl e) (.bl _)⟩
theorem rc_any {bs : List Bool} : RCD K (rAny K) [.lst (dB bs)] (.bl (bs.any id)) := rc1 fun x G H e r Q q => by
  cases r with
  | lst a b =>
    cases b.dB_inv
    exact ⟨_, bs, rfl, (ls_same e a).sq, q _ G H (Grow.refl e) (.bl _)⟩
theorem rc_max {ns : List Int} {m : Int} (hm : m ∈ ns) (hle : ∀ y ∈ ns, y ≤ m) : RCD K (rMax K) [.lst (dI ns)] (.int m) := rc1 fun x G H e r Q q => by
  cases r with
  | lst a b =>
    cases b.dI_inv
    refine ⟨_, ns, rfl, (ls_same e a).sq, List.length_pos_of_mem hm, fun k hk h2 => ?_⟩
    rw [show k = m from Int.le_antisymm (hle k hk) (h2 m hm)]
    exact q _ G H (Grow.refl e) (.int _)
theorem rc_min {ns : List Int} {m : Int} (hm : m ∈ ns) (hle : ∀ y ∈ ns, m ≤ y) : RCD K (rMin K) [.lst (dI ns)] (.int m) := rc1 fun x G H e r Q q => by
  cases r with
  | lst a b =>
    cases b.dI_inv
    refine ⟨_, ns, rfl, (ls_same e a).sq, List.length_pos_of_mem hm, fun k hk h2 => ?_⟩
    rw [show k = m from Int.le_antisymm (h2 m hm) (hle k hk)]
    exact q _ G H (Grow.refl e) (.int _)
theorem sorted_one {a b : List Int} (p : a.Perm b) (ha : a.Pairwise (· ≤ ·)) (hb : b.Pairwise (· ≤ ·)) : a = b := p.eq_of_pairwise (fun x y _ _ h1 h2 => Int.le_antisymm h1 h2) ha hb
theorem rc_sorted {ns ms : List Int} (hp : ms.Perm ns) (hs : ms.Pairwise (· ≤ ·)) : RCD K (rSortedI K) [.lst (dI ns)] (.lst (dI ms)) := rc1 fun x G H e r Q q => by
  cases r with
  | lst a b =>
    cases b.dI_inv
    refine ⟨_, ns, rfl, (ls_same e a).sq, fun ks p h1 h2 np => ?_⟩
    rw [sorted_one (h1.trans hp.symm) h2 hs]
    exact q _ _ _ (Grow.new e np) (.lst (LsX.of upd_same) (RepA.dI_mk _ ms))
/-- isinstance by a built-in class -/
def tyN : D → String
  | .non => "NoneType"
  | .bl _ => "bool"
  | .int _ => "int"
  | .str _ => "str"
  | .lst _ => "list"
  | .tup _ => "tuple"
  | .dct => "dict"
  | _ => ""
theorem ne_int {i : Int} : tyN (.int i) ≠ "" := show ("int" : String) ≠ "" by decide
theorem ne_bl {i : Bool} : tyN (.bl i) ≠ "" := show ("bool" : String) ≠ "" by decide
theorem ne_lst {i : List D} : tyN (.lst i) ≠ "" := show ("list" : String) ≠ "" by decide
theorem ne_tup {i : List D} : tyN (.tup i) ≠ "" := show ("tuple" : String) ≠ "" by decide
theorem ne_str {i : Str} : tyN (.str i) ≠ "" := show ("str" : String) ≠ "" by decide
theorem ne_non : tyN .non ≠ "" := show ("NoneType" : String) ≠ "" by decide
theorem ne_dct : tyN .dct ≠ "" := show ("dict" : String) ≠ "" by decide
theorem rc_isi {d : D} {n : String} {b : Bool} (h : kitB (tyN d) n = some b) (hd : tyN d ≠ "") : RCD K (rIsi K) [d, .ty n] (.bl b) := fun vs G H e ra Q q => by
  cases ra with
  | cons r1 r2 =>
    cases r2 with
    | cons r2 r3 =>
      cases r3
      cases r2
      refine ⟨_, _, .type (tyN d), .type n, b, rfl, .ty n, ?_, kit_ty h, q _ G H (Grow.refl e) (.bl _)⟩
      cases r1 with
      | non => exact .base .non
      | bl x => exact .base (.bl x)
      | int i => exact .base (.int i)
      | str z => exact .base (.str z)
      | lst a _ =>
        rcases ls_same e a with (a | ⟨o, a⟩) | ⟨its, n, a, _⟩
        · exact .base (.lst a)
        · exact .base (.frz a)
        · exact .kList a rfl
      | tup a _ =>
        rcases rd_same e a with a | ⟨o, a⟩
        · exact .base (.tup a)
        · exact .fTuple a
      | dct a => exact .base (.dK (e _ _ a))
      | ty _ => exact absurd rfl hd
      | cls _ => exact absurd rfl hd
      | op _ => exact absurd rfl hd
      | ins _ _ => exact absurd rfl hd
theorem rc_isF {d : D} {n : String} (f : D → Bool) (h : ∀ d, tyN d ≠ "" → kitB (tyN d) n = some (f d)) (hd : tyN d ≠ "") : RCD K (rIsi K) [d, .ty n] (.bl (f d)) := rc_isi (h d hd) hd
def isInt : D → Bool
  | .int _ | .bl _ => true
  | _ => false
def isBool : D → Bool
  | .bl _ => true
  | _ => false
def isList : D → Bool
  | .lst _ => true
  | _ => false
def isTup : D → Bool
  | .tup _ => true
  | _ => false
theorem k_ii : kitB "int" "int" = some true := by decide +kernel
theorem k_ib : kitB "int" "bool" = some false := by decide +kernel
theorem k_il : kitB "int" "list" = some false := by decide +kernel
theorem k_it : kitB "int" "tuple" = some false := by decide +kernel
theorem k_bi : kitB "bool" "int" = some true := by decide +kernel
theorem k_bb : kitB "bool" "bool" = some true := by decide +kernel
theorem k_bl : kitB "bool" "list" = some false := by decide +kernel
theorem k_bt : kitB "bool" "tuple" = some false := by decide +kernel
theorem k_li : kitB "list" "int" = some false := by decide +kernel
theorem k_lb : kitB "list" "bool" = some false := by decide +kernel
theorem k_ll : kitB "list" "list" = some true := by decide +kernel
theorem k_lt : kitB "list" "tuple" = some false := by decide +kernel
theorem k_ti : kitB "tuple" "int" = some false := by decide +kernel
theorem k_tb : kitB "tuple" "bool" = some false := by decide +kernel
theorem k_tl : kitB "tuple" "list" = some false := by decide +kernel
theorem k_tt : kitB "tuple" "tuple" = some true := by decide +kernel
theorem k_si : kitB "str" "int" = some false := by decide +kernel
theorem k_sb : kitB "str" "bool" = some false := by decide +kernel
theorem k_sl : kitB "str" "list" = some false := by decide +kernel
theorem k_st : kitB "str" "tuple" = some false := by decide +kernel
theorem k_ni : kitB "NoneType" "int" = some false := by decide +kernel
theorem k_nb : kitB "NoneType" "bool" = some false := by decide +kernel
theorem k_nl : kitB "NoneType" "list" = some false := by decide +kernel
theorem k_nt : kitB "NoneType" "tuple" = some false := by decide +kernel
theorem k_di : kitB "dict" "int" = some false := by decide +kernel
theorem k_db : kitB "dict" "bool" = some false := by decide +kernel
theorem k_dl : kitB "dict" "list" = some false := by decide +kernel
theorem k_dt : kitB "dict" "tuple" = some false := by decide +kernel
theorem rc_int {d : D} (hd : tyN d ≠ "") : RCD K (rIsi K) [d, .ty "int"] (.bl (isInt d)) := rc_isF isInt (fun d h => by
  cases d with
  | non => exact k_ni
  | bl _ => exact k_bi
  | int _ => exact k_ii
  | str _ => exact k_si
  | lst _ => exact k_li
  | tup _ => exact k_ti
  | dct => exact k_di
  | ins _ _ => exact absurd rfl h
  | ty _ => exact absurd rfl h
  | cls _ => exact absurd rfl h
  | op _ => exact absurd rfl h) hd
theorem rc_bool {d : D} (hd : tyN d ≠ "") : RCD K (rIsi K) [d, .ty "bool"] (.bl (isBool d)) := rc_isF isBool (fun d h => by
  cases d with
  | non => exact k_nb
  | bl _ => exact k_bb
  | int _ => exact k_ib
  | str _ => exact k_sb
  | lst _ => exact k_lb
  | tup _ => exact k_tb
  | dct => exact k_db
  | ins _ _ => exact absurd rfl h
  | ty _ => exact absurd rfl h
  | cls _ => exact absurd rfl h
  | op _ => exact absurd rfl h) hd
theorem rc_list {d : D} (hd : tyN d ≠ "") : RCD K (rIsi K) [d, .ty "list"] (.bl (isList d)) := rc_isF isList (fun d h => by
  cases d with
  | non => exact k_nl
  | bl _ => exact k_bl
  | int _ => exact k_il
  | str _ => exact k_sl
  | lst _ => exact k_ll
  | tup _ => exact k_tl
  | dct => exact k_dl
  | ins _ _ => exact absurd rfl h
  | ty _ => exact absurd rfl h
  | cls _ => exact absurd rfl h
  | op _ => exact absurd rfl h) hd
theorem rc_tuple {d : D} (hd : tyN d ≠ "") : RCD K (rIsi K) [d, .ty "tuple"] (.bl (isTup d)) := rc_isF isTup (fun d h => by
  cases d with
  | non => exact k_nt
  | bl _ => exact k_bt
  | int _ => exact k_it
  | str _ => exact k_st
  | lst _ => exact k_lt
  | tup _ => exact k_tt
  | dct => exact k_dt
  | ins _ _ => exact absurd rfl h
  | ty _ => exact absurd rfl h
  | cls _ => exact absurd rfl h
  | op _ => exact absurd rfl h) hd
theorem de_ty {n : String} {Γ : List B} : DE K (tC (.ty n)) Γ (.ty n) := de_c fun _ => .ty n
end
/-! ## sizes -/
/-- at most n bits -/
structure Fit (n : Nat) (i : Int) : Prop where
  lt : i.natAbs < 2 ^ n
theorem Fit.mono {m n : Nat} {i : Int} (h : Fit m i) (e : m ≤ n) : Fit n i := ⟨Nat.lt_of_lt_of_le h.lt (Nat.pow_le_pow_right (by decide) e)⟩
theorem Fit.log {n : Nat} {i : Int} (h : Fit n i) : i.natAbs.log2 ≤ n := by
  by_cases h0 : i.natAbs = 0
  · rw [h0]
    exact Nat.zero_le _
  · exact Nat.le_of_lt ((Nat.log2_lt h0).mpr h.lt)
theorem Fit.mulok {m n : Nat} {i j : Int} (h : Fit m i) (h2 : Fit n j) (e : m + n < 100000000) : CMulX i j := .inr (by
  have a := h.log
  have b := h2.log
  omega)
theorem Fit.mul {m n : Nat} {i j : Int} (h : Fit m i) (h2 : Fit n j) : Fit (m + n) (i * j) := ⟨by
  rw [Int.natAbs_mul, Nat.pow_add]
  exact Nat.mul_lt_mul'' h.lt h2.lt⟩
theorem Fit.add {m : Nat} {i j : Int} (h : Fit m i) (h2 : Fit m j) : Fit (m + 1) (i + j) := ⟨by
  have := Int.natAbs_add_le i j
  have := h.lt
  have := h2.lt
  rw [Nat.pow_succ]
  omega⟩
theorem Fit.neg {m : Nat} {i : Int} (h : Fit m i) : Fit m (-i) := ⟨by
  rw [Int.natAbs_neg]
  exact h.lt⟩
theorem Fit.sub {m : Nat} {i j : Int} (h : Fit m i) (h2 : Fit m j) : Fit (m + 1) (i - j) := by
  rw [Int.sub_eq_add_neg]
  exact h.add h2.neg
theorem Fit.le {m : Nat} {i j : Int} (h : Fit m i) (e : j.natAbs ≤ i.natAbs) : Fit m j := ⟨Nat.lt_of_le_of_lt e h.lt⟩
theorem Fit.abs {m : Nat} {i : Int} (h : Fit m i) : Fit m (absI i) := h.le (by unfold absI; split <;> omega)
theorem Fit.small {i : Int} (n : Nat) (h : i.natAbs < 2 ^ n) : Fit n i := ⟨h⟩
theorem Fit.divok {n : Nat} {i j : Int} (h0 : 0 < j) (h : Fit n j) (e : n < 9000) : CDivW i j := ⟨h0, by have := h.log; omega⟩
theorem Fit.div {m : Nat} {i j : Int} (h : Fit m i) (h0 : 0 < j) : Fit m (i / j) := h.le (by
  rcases Int.lt_or_le i 0 with hi | hi
  · have a := Int.mul_ediv_add_emod i j
    have b := Int.emod_nonneg i (show j ≠ 0 by omega)
    have c := Int.emod_lt_of_pos i h0
    have h1 : i / j ≤ -1 := by
      rcases Int.lt_or_le (i / j) 0 with z | z
      · omega
      · have := Int.mul_nonneg (show (0 : Int) ≤ j by omega) z
        omega
    have d : (j - 1) * (i / j) ≤ (j - 1) * (-1) := Int.mul_le_mul_of_nonneg_left h1 (by omega)
    rw [Int.sub_mul, Int.one_mul] at d
    omega
  · have h1 : 0 ≤ i / j := Int.ediv_nonneg hi (by omega)
    have h2 : i / j ≤ i := Int.ediv_le_self j hi
    omega)
end DL

/-! DM: max(xs, default=d). -/
namespace DL
open PySem PySem.Spec PyProof.Rows
section
variable {prog : Program} {w : World} {A : Around} {R : Result → Shared → Prop} {I : Addr} {fp wr : List Addr} {n : Nat} {P : Nat → Value → Prop} {St : Nat → Heap → Prop}
theorem max_turns (kw : List (Str × Value)) (W : PySem.Walks prog w A.in1 I fp wr n P St) (bt : Nat → Nat → Bool) (better : PySem.CmpOf prog w A.in1 .Gt P bt) (S : Addr) (out : S ∉ fp) :
    ∀ (k j : Nat) (s : Shared) (best : Value) (c : Nat), n - (j + 1) = k → j + 1 ≤ n → St (j + 1) s.heap → P (PySem.argBest bt j) best →
    s.heap.get? S = some { cls := .type "list", dict := none, data := .seq #[best, best] c, slots := #[] } →
    (∀ v h' tk, P (PySem.argBest bt (n - 1)) v → (∀ b o, b ∉ wr → b ≠ S → s.heap.get? b = some o → h'.get? b = some o) → R (.ok (.ret v)) { s with heap := h', toks := tk }) →
    codeAny (model prog w) A (.builtin "max.loop" ⟨[.ref I, .none, .ref S], kw⟩) R s := by
  have outw : S ∉ wr := fun z => out (W.sub _ z)
  have nm : (toString "max" ++ toString ".loop" : String) = "max.loop" := by decide
  intro k
  induction k with
  | zero =>
    intro j s best c hk hj st hP hS hR
    have last : j + 1 = n := by omega
    refine codeAny_builtin PySem.F.entry_max_loop ?_
    rw [Around.under_plainId PySem.F.plain_max_loop _]
    show wpAny _ A.in1 (seqItems? (.ref S) >>= _) _ _ s
    refine wpAny_bind (wpAny_seqItems hS rfl ?_)
    show wpAny _ A.in1 (tryCatch (pyNext (.ref I)) _ >>= _) _ _ s
    refine wpAny_bind (wpAny_tryCatch (W.done s _ _ (last ▸ st) fun h' tk kp => ?_))
    have hS2 := kp S _ outw hS
    show wpAny _ A.in1 (updateSeq S (fun _ => #[]) >>= _) _ _ _
    refine wpAny_bind (wpAny_updateSeq hS2 rfl (wpAny_bind (wpAny_letGo (wpAny_pure ?_))))
    exact hR best _ tk (by rw [← last]; exact hP) fun b o h1 h2 e => (Heap.get?_update_other _ _ (Ne.symm h2)).trans (kp b o h1 e)
  | succ k ih =>
    intro j s best c hk hj st hP hS hR
    have more : j + 1 < n := by omega
    refine codeAny_builtin PySem.F.entry_max_loop ?_
    rw [Around.under_plainId PySem.F.plain_max_loop _]
    show wpAny _ A.in1 (seqItems? (.ref S) >>= _) _ _ s
    refine wpAny_bind (wpAny_seqItems hS rfl ?_)
    show wpAny _ A.in1 (tryCatch (pyNext (.ref I)) _ >>= _) _ _ s
    refine wpAny_bind (wpAny_tryCatch (W.item (j + 1) s _ _ more st fun v h' tk hv st' kp => ?_))
    have hS2 := kp S _ outw hS
    show wpAny _ A.in1 (tryCatch (holding [v, v] (richCompare .Gt v best >>= _)) _ >>= _) _ _ _
    refine wpAny_bind (wpAny_tryCatch (wpAny_holding (wpAny_bind (better (j + 1) (PySem.argBest bt j) v best _ _ _ hv hP ?_))))
    refine wpAny_bind (wpAny_holding (wpAny_truthy_bool (wpAny_bind (wpAny_letGo (wpAny_pure ?_)))))
    cases hb : bt (j + 1) (PySem.argBest bt j) with
    | true =>
      simp only [if_true]
      refine wpAny_bind (wpAny_updateSeq hS2 rfl (wpAny_bind (wpAny_letGo ?_)))
      rw [nm]
      refine wpAny_pure ⟨plainId_quiet PySem.F.plain_max_loop _, ih (j + 1) _ v _ (by omega) more (W.frame _ _ _ st' fun b hbf o e => ?_) (by simp only [PySem.argBest, hb, if_true]; exact hv) (Heap.get?_update_self _ hS2 rfl)
        fun v' h2 t2 hP2 k2 => hR v' h2 t2 hP2 fun b o h3 h4 e => k2 b o h3 h4 ((Heap.get?_update_other _ _ (Ne.symm h4)).trans (kp b o h3 e))⟩
      exact (Heap.get?_update_other _ _ (fun z : S = b => out (by rw [z]; exact hbf))).trans e
    | false =>
      simp only [Bool.false_eq_true, if_false]
      refine wpAny_bind (wpAny_letGo ?_)
      rw [nm]
      exact wpAny_pure ⟨plainId_quiet PySem.F.plain_max_loop _, ih (j + 1) _ best c (by omega) more st' (by simp only [PySem.argBest, hb, Bool.false_eq_true, if_false]; exact hP) hS2
        fun v' h2 t2 hP2 k2 => hR v' h2 t2 hP2 fun b o h3 h4 e => k2 b o h3 h4 (kp b o h3 e)⟩
end
section
variable {prog : Program} {w : World} {A : Around} {E : Value → Shared → Prop} {s : Shared}
theorem args_max_default (a v : Value) : argsOk "max" ⟨[a], [(Str.ofString "default", v)]⟩ := by unfold argsOk; kernel_rfl
theorem max_default {l : Addr} {its : List Value} {ns : List Int} {d : Value} {Q : Value → Shared → Prop} (hh : A.handled = none) (hl : s.heap.IsList l its.toArray) (hi : IntsAre its ns)
    (h : ∀ h' tk, (∀ b o, s.heap.get? b = some o → h'.get? b = some o) → (ns = [] → Q d { s with heap := h', toks := tk }) ∧ ∀ M t, M ∈ ns → (∀ a, a ∈ ns → a ≤ M) → Q (.int M t) { s with heap := h', toks := tk }) :
    wpAny (model prog w) A (call (.builtin "max") [.ref l] [(Str.ofString "default", d)]) Q E s := by
  have nm : (toString "max" ++ toString ".loop" : String) = "max.loop" := by decide
  obtain ⟨xs, e⟩ := hi.allInts.items
  have hn : numsOf (intItems xs).toList = ns := by rw [← e]; exact hi.numsOf
  rw [nums_intItems] at hn
  subst hn
  rw [e] at hl
  refine PyProof.Rows.kmk_tree PySem.F.kind_max PySem.F.plain_max PySem.F.entry_max (args_max_default _ _) ?_
  show wpAny _ A.in1 (Builtin.Builtins.bindParams "max" ["key", "default"] 0 ⟨[], [(Str.ofString "default", d)]⟩ >>= _) _ _ s
  refine wpAny_bind (wpAny_of_eq (show Builtin.Builtins.bindParams "max" ["key", "default"] 0 ⟨[], [(Str.ofString "default", d)]⟩ = pure [none, some d] from rfl) ?_)
  refine wpAny_bind (wpAny_pure ?_)
  refine wpAny_bind (iter_intList hl fun s₂ e st hfp hlI => ?_)
  subst e
  have W := PySem.Walks.list (prog := prog) (w := w) (A := A.in1) hh _ l hlI (intItems xs)
  refine wpAny_bind (wpAny_newObj_type ?_)
  rw [nm]
  refine wpAny_pure ⟨plainId_quiet PySem.F.plain_max_loop _, ?_⟩
  generalize hs2 : ({ s with heap := s.heap.push { cls := .type "list_iterator", data := .fields #[.ref l, .int 0 0] } } : Shared) = s2 at st hfp W ⊢
  have kept2 : ∀ b o, s.heap.get? b = some o → s2.heap.get? b = some o := fun b o e => by
    rw [← hs2]
    exact Heap.get?_push_of_some _ e
  have outs : s2.heap.objs.size ∉ [s.heap.objs.size, l] := fun hm => Nat.lt_irrefl _ (hfp _ hm)
  have wrs : ∀ b o, s.heap.get? b = some o → b ∉ [s.heap.objs.size] := fun b o e hm => by
    rw [List.mem_singleton.mp hm] at e
    exact absurd (Heap.lt_size e) (Nat.lt_irrefl _)
  have gS := Heap.get?_push_size (h := s2.heap) (o := { cls := .type "list", data := .seq ([] : List Value).toArray }) rfl
  have st2 := W.frame 0 _ (s2.heap.push { cls := .type "list", data := .seq ([] : List Value).toArray }) st fun b _ o e => Heap.get?_push_of_some _ e
  refine codeAny_builtin PySem.F.entry_max_loop ?_
  rw [Around.under_plainId PySem.F.plain_max_loop _]
  show wpAny _ A.in1 (seqItems? (.ref _) >>= _) _ _ _
  refine wpAny_bind (wpAny_seqItems gS rfl ?_)
  show wpAny _ A.in1 (tryCatch (pyNext (.ref _)) _ >>= _) _ _ _
  by_cases hz : (intItems xs).size = 0
  · refine wpAny_bind (wpAny_tryCatch (W.done _ _ _ (by rw [hz]; exact st2) fun h' tk kp => ?_))
    show wpAny _ A.in1 (do rule "max.default"; ret d) _ _ _
    refine wpAny_bind (wpAny_rule (wpAny_pure ?_))
    have hx : xs.toList.map (·.1) = [] := by
      have hz2 : xs.size = 0 := by simpa [intItems] using hz
      have : xs.toList = [] := by
        apply List.eq_nil_of_length_eq_zero
        rw [Array.length_toList]
        exact hz2
      rw [this]
      rfl
    rw [← hs2]
    exact (h h' tk fun b o e => kp b o (wrs b o e) (Heap.get?_push_of_some _ (kept2 b o e))).1 hx
  · refine wpAny_bind (wpAny_tryCatch (W.item 0 _ _ _ (Nat.pos_of_ne_zero hz) st2 fun v h' tk hv st3 kp => ?_))
    have gS2 := kp _ _ (fun hm => outs (W.sub _ hm)) gS
    show wpAny _ A.in1 (updateSeq s2.heap.objs.size (fun _ => #[v, v]) >>= _) _ _ _
    refine wpAny_bind (wpAny_updateSeq gS2 rfl ?_)
    rw [nm]
    refine wpAny_pure ⟨plainId_quiet PySem.F.plain_max_loop _, max_turns _ W _ (CmpOf.ints_gt (numAt xs) (fun _ _ => intItems_at)) _ outs _ 0 _ v _ rfl (Nat.pos_of_ne_zero hz) (W.frame _ _ _ st3 fun b hb o e => ?_) hv (Heap.get?_update_self _ gS2 rfl) fun v' h2 t2 hv2 k2 => ?_⟩
    · exact (Heap.get?_update_other _ _ (fun z => outs (by rw [z]; exact hb))).trans e
    · obtain ⟨t, rfl⟩ := intItems_at hv2
      obtain ⟨h1, h3⟩ := argBest_gt (numAt xs) ((intItems xs).size - 1)
      have hsz : (intItems xs).size = xs.size := by simp [intItems]
      have kept : ∀ b o, s.heap.get? b = some o → h2.get? b = some o := fun b o e =>
        k2 b o (wrs b o e) (fun z => by
          have q := Heap.lt_size (kept2 b o e)
          rw [z] at q
          exact Nat.lt_irrefl _ q) ((Heap.get?_update_other _ _ (fun z => by
          have q := Heap.lt_size (kept2 b o e)
          rw [← z] at q
          exact Nat.lt_irrefl _ q)).trans (kp b o (wrs b o e) (Heap.get?_push_of_some _ (kept2 b o e))))
      rw [← hs2]
      refine (h h2 t2 kept).2 _ t ?_ fun a ha => ?_
      · rw [numAt_eq]
        exact PySem.getD_mem (by rw [List.length_map, Array.length_toList]; omega)
      · obtain ⟨j, hj, rfl⟩ := mem_getD ha
        rw [List.length_map, Array.length_toList] at hj
        rw [← numAt_eq]
        exact h3 j (by omega)
end
end DL
namespace DL
open PySem PySem.Spec PyProof.Rows L2
variable {K : PySem.W.Frag}
/-- max(xs, default=d) -/
def rMaxD (K : PySem.W.Frag) : List V → List V → Hp → VK → Prop := fun vs zs H Q => ∃ (a : Addr) (ns : List Int) (d : Int), vs = [V.ref a] ∧ zs = [V.int d] ∧ SqL K H a (ns.map V.int) ∧
  ∀ m, (ns = [] → m = d) → (ns ≠ [] → m ∈ ns ∧ ∀ y ∈ ns, y ≤ m) → Q (.int m) H
theorem cr_maxD {X : Cx} (hc : X.calm = true) : CallRK X (.builtin "max") [Str.ofString "default"] (rMaxD X.K) := by
  intro pins s σ H vs zs us ws Q I r rz h
  obtain ⟨a, ns, d, rfl, rfl, hs, q⟩ := h
  obtain rfl := Vals.ref1 r
  obtain ⟨w1, rfl, e1⟩ := vals1 rz
  obtain ⟨t, rfl⟩ : ∃ t, w1 = Value.int d t := e1
  obtain ⟨its, rv, hl, _⟩ := I.list hs
  refine max_default (I.ok.hd hc) hl.isList rv.ints fun h' tk hk => ⟨fun e => ?_, fun M t' h1 h2 => ?_⟩
  · exact ⟨.int d, H, I.kept hk, ⟨t, rfl⟩, q d (fun _ => rfl) fun z => absurd e z⟩
  · exact ⟨.int M, H, I.kept hk, ⟨t', rfl⟩, q M (fun e => by rw [e] at h1; cases h1) fun _ => ⟨h1, h2⟩⟩
theorem maxDK {X : Cx} (K : PySem.W.Frag) (hc : X.calm = true) (h : X.K = K := by rfl) : CallRK X (.builtin "max") [Str.ofString "default"] (rMaxD K) := h ▸ cr_maxD hc
def maxOr (d : Int) (ns : List Int) : Int := (ns.max?).getD d
theorem maxOr_nil (d : Int) : maxOr d [] = d := rfl
theorem maxOr_mem {d : Int} {ns : List Int} (h : ns ≠ []) : maxOr d ns ∈ ns ∧ ∀ y ∈ ns, y ≤ maxOr d ns := by
  cases e : ns.max? with
  | none => exact absurd (List.max?_eq_none_iff.mp e) h
  | some m =>
    have q := List.max?_eq_some_iff.mp e
    unfold maxOr
    rw [e]
    exact ⟨q.1, fun y hy => q.2 y hy⟩
theorem maxOr_eq {d m : Int} {ns : List Int} (h1 : ns = [] → m = d) (h2 : ns ≠ [] → m ∈ ns ∧ ∀ y ∈ ns, y ≤ m) : m = maxOr d ns := by
  cases ns with
  | nil => exact h1 rfl
  | cons x r =>
    have a := h2 (List.cons_ne_nil _ _)
    have b := maxOr_mem (d := d) (List.cons_ne_nil x r)
    exact Int.le_antisymm (b.2 m a.1) (a.2 _ b.1)
theorem de_maxD {t tk : TA} {Γ : List B} {ns : List Int} {d : Int} (h : DAr K t Γ [.lst (dI ns)]) (hk : DAr K tk Γ [.int d]) : DE K (tCKw (rMaxD K) t tk) Γ (.int (maxOr d ns)) := fun σ G H e s Q q =>
  h σ G H e s _ fun vs G1 H1 g1 r1 => hk σ G1 H1 g1.i (s.mono g1.g) _ fun zs G2 H2 g2 r2 => by
    cases r1 with
    | cons a b =>
      cases b
      cases r2 with
      | cons c b =>
        cases b
        cases c
        cases a with
        | lst a b =>
          cases b.dI_inv
          refine ⟨_, ns, d, rfl, rfl, (ls_same (g1.i.trans g2.h) a).sq, fun m h1 h2 => ?_⟩
          rw [maxOr_eq h1 h2]
          exact q _ G2 H2 (g1.trans g2) (.int _)
end DL

/-! DQ: objects, chains of three, extend, in, isinstance of one's own classes. -/
namespace DL
open PySem PySem.Spec PyProof.Rows L2
variable {K : PySem.W.Frag}

/-! ## a op b op c op d -/
def tChain3 (r1 r2 r3 : R2) (ta tb tc td : TE) : TE := fun σ H Q => ta σ H fun x H1 => tb σ H1 fun y H2 => r1 x y H2 fun z H3 => ∃ k, z = .bl k ∧
  (if k = true then tc σ H3 fun w H4 => r2 y w H4 fun z2 H5 => ∃ k2, z2 = .bl k2 ∧ (if k2 = true then td σ H5 fun u H6 => r3 w u H6 Q else Q (.bl false) H5) else Q (.bl false) H3)
section
variable {X : Cx} {a b c d : Expr} {ta tb tc td : TE} {o1 o2 o3 : CmpOp} {r1 r2 r3 : R2} {pos : Pos}
theorem pe_chain3 (h1 : OpR X (compareOp o1) r1) (h2 : OpR X (compareOp o2) r2) (h3 : OpR X (compareOp o3) r3) (ha : PE X a ta) (hb : PE X b tb) (hc : PE X c tc) (hd : PE X d td)
    (hm : lastMarks [o1, o2, o3] [b, c, d] = false := by with_unfolding_all rfl) : PE X (.Compare a [o1, o2, o3] [b, c, d] pos) (tChain3 r1 r2 r3 ta tb tc td) := by
  refine ⟨fun pins s σ H Q I h => ?_⟩
  refine Compare_chain (thn (ha.run pins s σ H _ I h) fun v s1 ⟨x, H1, I1, e1, q1⟩ => ?_) hm
  refine chain_link (thn (hb.run pins s1 σ H1 _ I1 q1) fun u s2 ⟨y, H2, I2, e2, q2⟩ => ?_)
  refine thn (h1 pins s2 σ H2 x y v u _ I2 e1 e2 q2) fun g s3 ⟨z, H3, I3, e3, k, e, q3⟩ => ?_
  subst e
  cases e3
  refine wpAny_truthy_bool ?_
  cases k with
  | false => exact ite_ff ⟨.bl false, H3, I3, rfl, q3⟩
  | true =>
    refine ite_tt (chain_link (thn (hc.run pins s3 σ H3 _ I3 q3) fun w s4 ⟨y2, H4, I4, e4, q4⟩ => ?_))
    refine thn (h2 pins s4 σ H4 y y2 u w _ I4 e2 e4 q4) fun g s5 ⟨z, H5, I5, e5, k2, e, q5⟩ => ?_
    subst e
    cases e5
    refine wpAny_truthy_bool ?_
    cases k2 with
    | false => exact ite_ff ⟨.bl false, H5, I5, rfl, q5⟩
    | true => exact ite_tt (chain_last (thn (hd.run pins s5 σ H5 _ I5 q5) fun w2 s6 ⟨y3, H6, I6, e6, q6⟩ => h3 pins s6 σ H6 y2 y3 w w2 Q I6 e4 e6 q6))
theorem pt_chain3 (h1 : OpR X (compareOp o1) r1) (h2 : OpR X (compareOp o2) r2) (h3 : OpR X (compareOp o3) r3) (ha : PE X a ta) (hb : PE X b tb) (hc : PE X c tc) (hd : PE X d td)
    (hm : lastMarks [o1, o2, o3] [b, c, d] = false := by with_unfolding_all rfl) : PT X (.Compare a [o1, o2, o3] [b, c, d] pos) (tTest (tChain3 r1 r2 r3 ta tb tc td)) := by
  refine ⟨fun pins s σ H Q I h => ?_⟩
  refine isTrue_chain (thn (ha.run pins s σ H _ I h) fun v s1 ⟨x, H1, I1, e1, q1⟩ => ?_) hm
  refine test_link (thn (hb.run pins s1 σ H1 _ I1 q1) fun u s2 ⟨y, H2, I2, e2, q2⟩ => ?_)
  refine thn (h1 pins s2 σ H2 x y v u _ I2 e1 e2 q2) fun g s3 ⟨z, H3, I3, e3, k, e, q3⟩ => ?_
  subst e
  cases e3
  refine wpAny_truthy_bool ?_
  cases k with
  | false =>
    obtain ⟨k', e', q'⟩ := q3
    cases e'
    exact ite_ff ⟨H3, I3, q'⟩
  | true =>
    refine ite_tt (test_link (thn (hc.run pins s3 σ H3 _ I3 q3) fun w s4 ⟨y2, H4, I4, e4, q4⟩ => ?_))
    refine thn (h2 pins s4 σ H4 y y2 u w _ I4 e2 e4 q4) fun g s5 ⟨z, H5, I5, e5, k2, e, q5⟩ => ?_
    subst e
    cases e5
    refine wpAny_truthy_bool ?_
    cases k2 with
    | false =>
      obtain ⟨k', e', q'⟩ := q5
      cases e'
      exact ite_ff ⟨H5, I5, q'⟩
    | true =>
      refine ite_tt (test_last (thn (hd.run pins s5 σ H5 _ I5 q5) fun w2 s6 ⟨y3, H6, I6, e6, q6⟩ => ?_))
      refine thn (h3 pins s6 σ H6 y2 y3 w w2 _ I6 e4 e6 q6) fun g s7 ⟨z, H7, I7, e7, k3, e, q7⟩ => ?_
      subst e
      cases e7
      exact wpAny_truthy_bool ⟨H7, I7, q7⟩
/-- l.extend(b) -/
theorem mt_extendX : MtR X "list.extend" (rExtX X.K) := by
  intro pins s σ H x vs v us Q I rx rv h
  obtain ⟨l, b, xs, zs, rfl, rfl, hH, hB, hz, q⟩ := h
  cases rx
  obtain ⟨u, rfl, ru⟩ := rv.one
  cases ru
  obtain ⟨z, its, n, r, hl, e⟩ := I.lstM hH
  obtain ⟨z2, its2, n2, r2, hl2, e2⟩ := lst_get I hB
  have hs : its.toArray.size + its2.toArray.size ≤ sizeLine := by
    rw [List.size_toArray, List.size_toArray, ← hl, ← hl2]
    exact hz
  have hno : ¬ (!its.toArray.isEmpty && Builtin.List.listTooLong (its.toArray.size + its2.toArray.size)) = true := by
    rw [notLongL hs, Bool.and_false]
    exact Bool.false_ne_true
  refine call_meets PySem.F.slot_list_extend ⟨_, e, rfl⟩ PySem.F.entry_list_extend (PySem.F.args_list_extend_2 _ _) (AutoSeq1.list_extend_list_list_0 l its.toArray n b its2.toArray n2 hno (by rw [List.size_toArray]; omega) (by omega)) ⟨e, e2, ?_⟩
  exact ⟨.non, _, I.lset (its' := its ++ its2) hH e (by simp) (r.append r2) (by rw [List.length_append]; exact hz), rfl, q⟩
theorem extK (K : PySem.W.Frag) (h : X.K = K := by rfl) : MtR X "list.extend" (rExtX K) := h ▸ mt_extendX
theorem ps_fldK (K : PySem.W.Frag) {o v : Expr} {f : Str} {p p2 : Pos} (ha : PE X o ta) (hv : PE X v tb) (hs : swapsWith v (some (.Attribute o f p2)) p.line X.env = pure false) (h : X.K = K := by rfl) : PS X (.Assign [.Attribute o f p2] v p) (sFld K ta tb f) := h ▸ ps_fld ha hv hs
/-- two readings of one expression -/
theorem pe_either {e : Expr} (h1 : PE X e ta) (h2 : PE X e tb) : PE X e (fun σ H Q => ta σ H Q ∨ tb σ H Q) := ⟨fun pins s σ H Q I h => by
  rcases h with h | h
  · exact h1.run pins s σ H Q I h
  · exact h2.run pins s σ H Q I h⟩
end
section
variable {Γ : List B} {ta tb tc td te : TE} {a b c d : D}
theorem de_either1 (h : DE K ta Γ d) : DE K (fun σ H Q => ta σ H Q ∨ tb σ H Q) Γ d := fun σ G H e s Q q => .inl (h σ G H e s Q q)
theorem de_either2 (h : DE K tb Γ d) : DE K (fun σ H Q => ta σ H Q ∨ tb σ H Q) Γ d := fun σ G H e s Q q => .inr (h σ G H e s Q q)
theorem de_chain3 {r r' r2 : R2} {x y z : Bool} (ha : DE K ta Γ a) (hb : DE K tb Γ b) (hr : R2D K r a b (.bl x)) (hc : x = true → DE K tc Γ c) (hr' : x = true → R2D K r' b c (.bl y)) (hd : x = true → y = true → DE K td Γ d) (hr2 : x = true → y = true → R2D K r2 c d (.bl z)) :
    DE K (tChain3 r r' r2 ta tb tc td) Γ (.bl (x && (y && z))) := fun σ G H e s Q q =>
  ha σ G H e s _ fun v G1 H1 g1 r1 => hb σ G1 H1 g1.i (s.mono g1.g) _ fun w G2 H2 g2 rw2 =>
    hr v w G2 H2 g2.i (r1.mono g2.g) rw2 _ fun o G3 H3 g3 r3 => by
      cases r3
      have g13 := (g1.trans g2).trans g3
      refine ⟨x, rfl, ?_⟩
      cases x with
      | false => exact q _ G3 H3 g13 (.bl false)
      | true =>
        refine hc rfl σ G3 H3 g3.i (s.mono g13.g) _ fun u G4 H4 g4 r4 => hr' rfl w u G4 H4 g4.i (rw2.mono (g3.trans g4).g) r4 _ fun o G5 H5 g5 r5 => ?_
        cases r5
        have g15 := (g13.trans g4).trans g5
        refine ⟨y, rfl, ?_⟩
        cases y with
        | false => exact q _ G5 H5 g15 (.bl false)
        | true =>
          exact hd rfl rfl σ G5 H5 g5.i (s.mono g15.g) _ fun u2 G6 H6 g6 r6 => hr2 rfl rfl u u2 G6 H6 g6.i (r4.mono (g5.trans g6).g) r6 Q fun v' G7 H7 g7 r7 => q v' G7 H7 ((g15.trans g6).trans g7) r7

/-! ## x in [..], whole numbers -/
theorem rep_int {G : Hp} {v : V} {i : Int} (h : Rep K G v (.int i)) : v = .int i := by
  cases h
  rfl
def inI (x : Int) (ns : List Int) : Bool := ns.any fun n => n == x
theorem inV_int (x : Int) : ∀ ns : List Int, L2.inV (.int x) (ns.map V.int) = inI x ns
  | [] => rfl
  | n :: r => by
    show (L2.eqV (.int n) (.int x) || L2.inV (.int x) (r.map V.int)) = (n == x || inI x r)
    rw [inV_int x r]
    rfl
theorem flats_int : ∀ ns : List Int, (ns.map V.int).all L2.flatV = true
  | [] => rfl
  | n :: r => by
    show (true && (r.map V.int).all L2.flatV) = true
    rw [flats_int r]
    rfl
theorem r2_in {x : Int} {ns : List Int} : R2D K (rIn K false) (.int x) (.lst (dI ns)) (.bl (inI x ns)) := fun u v G H e r1 r2 Q q => by
  cases r1
  cases r2 with
  | lst h1 a1 =>
    have e1 := RepA.dI_inv a1
    subst e1
    refine ⟨_, _, rfl, .inl (ls_same e h1).sq, rfl, flats_int ns, ?_⟩
    show Q (.bl (L2.inV (.int x) (ns.map V.int))) H
    rw [inV_int]
    exact q _ G H (Grow.refl e) (.bl _)

/-- range(k), k any whole number -/
theorem di_rngI {Γ : List B} {ta : TA} {k : Int} (h : DAr K ta Γ [.int k]) (h1 : -1000000 ≤ k) (h2 : k ≤ 1000000) : DI K (iRng1 ta) Γ ((List.range k.toNat).map fun i : Nat => D.int (i : Int)) := fun σ G H e s R q => h σ G H e s _ fun vs G1 H1 g1 r1 => by
  cases r1 with
  | cons a b =>
    cases a
    cases b
    refine ⟨k, rfl, by omega, by omega, q _ G1 H1 g1 ⟨YFn (fun i => .int (0 + (i : Int))), ?_, fun i G2 H x H' d e1 e2 y hd => ?_⟩⟩
    · rw [List.length_map, List.length_range]
      exact walk_range.mono (fun _ _ => trivial) fun _ _ _ _ _ _ y => y
    · obtain ⟨rfl, rfl⟩ := y
      rw [List.getElem?_map] at hd
      by_cases hi : i < k.toNat
      · rw [List.getElem?_range hi] at hd
        cases hd
        refine ⟨G2, Grow.refl e2, ?_⟩
        show Rep K G2 (V.int (0 + (i : Int))) (D.int (i : Int))
        rw [Int.zero_add]
        exact .int _
      · rw [List.getElem?_eq_none (by rw [List.length_range]; omega)] at hd
        cases hd
theorem zip_range {xs ys : List Int} (h : ys.length = xs.length) : zipD (dI xs) (dI ys) = (List.range xs.length).map fun i => D.tup [.int (xs.getD i 0), .int (ys.getD i 0)] := by
  apply List.ext_getElem?
  intro i
  by_cases hi : i < xs.length
  · have hl : i < (zipD (dI xs) (dI ys)).length := by
      rw [zipD_len, List.length_map, List.length_map]
      omega
    obtain ⟨a, b, h1, h2, h3⟩ := zipD_at (dI xs) (dI ys) i _ (List.getElem?_eq_getElem hl)
    rw [List.getElem?_eq_getElem hl, h3, List.getElem?_map, List.getElem?_range hi]
    rw [List.getElem?_map, List.getElem?_eq_getElem hi] at h1
    rw [List.getElem?_map, List.getElem?_eq_getElem (by omega)] at h2
    cases h1
    cases h2
    show _ = some (D.tup [.int (xs.getD i 0), .int (ys.getD i 0)])
    rw [List.getD_eq_getElem?_getD, List.getD_eq_getElem?_getD, List.getElem?_eq_getElem hi, List.getElem?_eq_getElem (by omega)]
    rfl
  · rw [List.getElem?_eq_none (by rw [zipD_len, List.length_map, List.length_map]; omega), List.getElem?_eq_none (by rw [List.length_map, List.length_range]; omega)]

/-! ## objects -/
def look : List (Str × D) → Str → Option D
  | [], _ => none
  | (g, d) :: r, f => if f = g then some d else look r f
theorem look_nil {f : Str} : look [] f = none := rfl
theorem look_hit {f : Str} {d : D} {r : List (Str × D)} : look ((f, d) :: r) f = some d := if_pos rfl
theorem look_miss {f g : Str} {d : D} {r : List (Str × D)} {o : Option D} (h : ¬ f = g) (k : look r f = o) : look ((g, d) :: r) f = o := (if_neg h).trans k
theorem lookup_cons {α : Type} (f g : Str) (v : α) (r : List (Str × α)) : ((g, v) :: r).lookup f = if f = g then some v else r.lookup f := by
  by_cases h : f = g
  · rw [if_pos h, List.lookup_cons, show (f == g) = true from by rw [h]; exact BEq.rfl]
  · rw [if_neg h, List.lookup_cons, show (f == g) = false from Bool.eq_false_iff.mpr fun z => h (eq_of_beq z)]
theorem RepF.at {G : Hp} : ∀ {vs : List (Str × V)} {ds : List (Str × D)} {f : Str} {d : D}, RepF K G vs ds → look ds f = some d → ∃ v, vs.lookup f = some v ∧ Rep K G v d
  | _, _, _, _, .nil, h => by cases h
  | _, _, f, d, .cons (f := g) (v := v) (vs := vs) (ds := ds) r t, h => by
    rw [lookup_cons]
    unfold look at h
    split at h
    · rename_i e
      cases h
      exact ⟨v, by rw [if_pos e], r⟩
    · rename_i e
      rw [if_neg e]
      exact RepF.at t h
theorem RepF.none {G : Hp} : ∀ {vs : List (Str × V)} {ds : List (Str × D)} {f : Str}, RepF K G vs ds → look ds f = none → vs.lookup f = none
  | _, _, _, .nil, _ => rfl
  | _, _, f, .cons (f := g) (v := v) (vs := vs) (ds := ds) r t, h => by
    rw [lookup_cons]
    unfold look at h
    split at h
    · cases h
    · rename_i e
      rw [if_neg e]
      exact RepF.none t h
theorem de_fld {C : Addr} {fs : List (Str × D)} {f : Str} (h : DE K te Γ (.ins C fs)) (c : Cls K C) (n : NoAttr K C f) (hf : look fs f = some d) : DE K (tFld K te f) Γ d := fun σ G H e s Q q =>
  h σ G H e s _ fun v G1 H1 g1 r1 => by
    cases r1 with
    | ins h1 h2 =>
      obtain ⟨v, h3, h4⟩ := h2.at hf
      exact ⟨_, C, _, _, v, rfl, g1.i _ _ h1, c, n, h3, q v G1 H1 g1 h4⟩
theorem de_meth {C : Addr} {fs : List (Str × D)} {m : Str} {n : Nat} {R : List D → D → Prop} {E : XK} {t : TA} {ds : List D} (h : DE K te Γ (.ins C fs)) (hn : look fs m = none) (ha : DAr K t Γ ds) (hR : R (.ins C fs :: ds) d) (hl : ds.length + 1 = n) : DE K (tMeth C m (spR K n R) [] E te t) Γ d := fun σ G H e s Q q =>
  h σ G H e s _ fun v G1 H1 g1 r1 => by
    cases r1 with
    | @ins a _ dx vs _ h1 h2 =>
      refine ⟨a, dx, vs, rfl, g1.i _ _ h1, h2.none hn, ha σ G1 H1 g1.i (s.mono g1.g) _ fun us G2 H2 g2 r2 => ?_⟩
      exact ⟨G2, .ins C fs :: ds, d, hl, g2.i, (s.tb.mono g1.g).mono g2.g, by rw [List.append_nil]; exact .cons ((Rep.ins h1 h2).mono g2.g) r2, hR, fun v G' H' g r => q v G' H' ((g1.trans g2).trans g) r⟩
/-- isinstance(x, C) -/
theorem rc_isC {C D : Addr} {fs : List (Str × DL.D)} {b : Bool} (c : C8.InsC K C) (h : PySem.W.kitOne K (.ref C) (.ref D) = some b) : RCD K (rIsi K) [.ins C fs, .cls D] (.bl b) := fun vs G H e ra Q q => by
  cases ra with
  | cons r1 r2 =>
    cases r2 with
    | cons r2 r3 =>
      cases r3
      cases r2
      cases r1 with
      | ins h1 _ => exact ⟨_, _, .ref C, .ref D, b, rfl, .own D, .base (TyOf.ins (e _ _ h1) c.cl c.ha c.hn c.htk c.hm), h, q _ G H (Grow.refl e) (.bl _)⟩
theorem de_cls {C : Addr} : DE K (tC (.ref C)) Γ (.cls C) := de_c fun _ => .cls C

/-! ## the fields of an object of one's own -/
def putC (f : Str) (c : Ch) : List (Str × Ch) → List (Str × Ch)
  | [] => [(f, c)]
  | (g, x) :: r => if g = f then (g, c) :: r else (g, x) :: putC f c r
def lookC : List (Str × Ch) → Str → Option Ch
  | [], _ => none
  | (g, x) :: r, f => if f = g then some x else lookC r f
theorem lookC_nil {f : Str} : lookC [] f = none := rfl
theorem lookC_hit {f : Str} {d : Ch} {r : List (Str × Ch)} : lookC ((f, d) :: r) f = some d := if_pos rfl
theorem lookC_miss {f g : Str} {d : Ch} {r : List (Str × Ch)} {o : Option Ch} (h : ¬ f = g) (k : lookC r f = o) : lookC ((g, d) :: r) f = o := (if_neg h).trans k
theorem putC_hit {f : Str} {c d : Ch} {r : List (Str × Ch)} : putC f c ((f, d) :: r) = (f, c) :: r := if_pos rfl
theorem putC_miss {f g : Str} {c d : Ch} {r r' : List (Str × Ch)} (h : ¬ f = g) (k : putC f c r = r') : putC f c ((g, d) :: r) = (g, d) :: r' := by
  rw [← k]
  exact if_neg fun z => h z.symm
theorem putC_nil {f : Str} {c : Ch} : putC f c [] = [(f, c)] := rfl
theorem ownF_keys {G H : Hp} : ∀ {vs : List (Str × V)} {fs : List (Str × Ch)} {as : List Addr}, OwnF K G H vs fs as → vs.length = fs.length
  | _, _, _, .nil => rfl
  | _, _, _, .cons _ r => congrArg (· + 1) (ownF_keys r)
/-- a field that was not there -/
theorem ownF_new {G H : Hp} {f : Str} {v : V} {c : Ch} {cs : List Addr} (o : OwnC K G H v c cs) : ∀ {vs : List (Str × V)} {fs : List (Str × Ch)} {as : List Addr}, OwnF K G H vs fs as → lookC fs f = none → OwnF K G H (putF f v vs) (putC f c fs) (as ++ cs)
  | _, _, _, .nil, _ => by
    have z := OwnF.cons (f := f) o OwnF.nil
    rwa [List.append_nil] at z
  | _, _, _, .cons (f := g) (v := u) (vs := vs) (c := x) (cs := fs) (as := a1) (bs := b1) p r, h => by
    unfold lookC at h
    split at h
    · cases h
    · rename_i e
      have e' : ¬ g = f := fun z => e z.symm
      show OwnF K G H (if g = f then (g, v) :: vs else (g, u) :: putF f v vs) (if g = f then (g, c) :: fs else (g, x) :: putC f c fs) _
      rw [if_neg e', if_neg e', List.append_assoc]
      exact .cons p (ownF_new o r h)
section
variable {bs : Base} {G H : Hp} {σ : L2.St} {A : Nat → List Addr} {t : Option Addr} {C : Addr} {fs : List (Str × Ch)} {i : Nat}
theorem oo_at (e : EnvA K bs G H σ Γ A) (hi : Γ[i]? = some (.oo t C fs)) : ∃ p dx vs as, σ[i]? = some (some (.ref p)) ∧ (∀ q, t = some q → q = p) ∧ H p = some (.ins C dx vs) ∧ OwnF K G H vs fs as ∧ A i = p :: as := by
  obtain ⟨v, h1, h2⟩ := e.at_ i _ hi (fun z => by cases z)
  generalize hA : A i = as at h2
  cases h2 with
  | oo ht h r => exact ⟨_, _, _, _, h1, ht, h, r, rfl⟩
end
def ChE (K : PySem.W.Frag) (te : TE) (Γ : List B) : Ch → Prop
  | .st d => DEo K te Γ d
  | .ow ds => DXo K te Γ (.ow ds)
/-- self.f = e: a new field -/
theorem ds_fld {t : Option Addr} {C : Addr} {fs : List (Str × Ch)} {f : Str} {P : Post} {c : Ch} (i : Nat) (hi : Γ[i]? = some (.oo t C fs)) (hC : Cls K C) (hN : NoAttr K C f) (hf : lookC fs f = none) (hl : fs.length < 1000)
    (h : ChE K te Γ c) (k : P.nx (Γ.set i (.oo t C (putC f c fs)))) : DS K (sFld K (tVar i) te f) Γ P := fun bs σ G H Dn ⟨A, e⟩ fi => by
  have main : ∀ (v : V) (G' H' : Hp) (cs : List Addr), Grow G H G' H' → OwnC K G' H' v c cs → cs.Nodup → (∀ a ∈ cs, H a = none ∧ G' a = none) → tVar i σ H' fun x H2 => ∃ a C dx fs, x = .ref a ∧ H2 a = some (.ins C dx fs) ∧ Cls K C ∧ NoAttr K C f ∧ fs.length < 1000 ∧ Dn.nx σ (upd H2 a (.ins C dx (putF f v fs))) := by
    intro v G' H' cs g o nd hn
    have e' := e.grow g
    obtain ⟨p, dx, vs, as, h1, h2, h3, h4, h5⟩ := oo_at e' hi
    refine ⟨_, h1, p, C, dx, vs, rfl, h3, hC, hN, by rw [ownF_keys h4]; exact hl, ?_⟩
    have hp : p ∈ A i := by rw [h5]; exact List.mem_cons_self
    have nda := e'.nd i
    rw [h5] at nda
    have npa : ¬ p ∈ as := (List.nodup_cons.mp nda).1
    have hpc : ∀ a ∈ cs, a ≠ p := fun a m z => (e.fr i p hp).2.2.ne (by rw [← z]; exact (hn a m).1)
    have npc : ¬ p ∈ cs := fun m => hpc p m rfl
    -- the object, changed; the new cells beside
    have e2 : EnvA K bs G' (upd H' p (.ins C dx (putF f v vs))) σ (Γ.set i .no) (fun j => if j = i then [] else A j) := by
      obtain ⟨f1, f2, f3⟩ := e'.fr i p hp
      refine ⟨e'.gr.mut f1 f2 f3.pl, by rw [List.length_set]; exact e'.len, fun j b hb hnb => ?_, fun j a m => ?_, fun j l a hjl m1 m2 => ?_, fun j => ?_, e'.tb⟩
      · rcases set_get hb with ⟨_, z, _⟩ | ⟨hij, hb⟩
        · exact (hnb z).elim
        · obtain ⟨w, w1, w2⟩ := e'.at_ j b hb hnb
          refine ⟨w, w1, ?_⟩
          rw [if_neg fun z => hij z.symm]
          exact w2.mono (Same.refl _) (Agree.upd fun m => e'.di i j p hij hp m)
      · by_cases hj : j = i
        · rw [if_pos hj] at m
          cases m
        · rw [if_neg hj] at m
          obtain ⟨x1, x2, x3⟩ := e'.fr j a m
          obtain ⟨u, u1, u2⟩ := x3
          refine ⟨x1, x2, u, ?_, u2⟩
          rw [upd_ne fun z => e'.di i j p (fun z => hj z.symm) hp (by rw [← z]; exact m)]
          exact u1
      · by_cases hj : j = i
        · rw [if_pos hj] at m1
          cases m1
        · by_cases hk : l = i
          · rw [if_pos hk] at m2
            cases m2
          · rw [if_neg hj] at m1
            rw [if_neg hk] at m2
            exact e'.di j l a hjl m1 m2
      · by_cases hj : j = i
        · rw [if_pos hj]
          exact List.nodup_nil
        · rw [if_neg hj]
          exact e'.nd j
    have ho : Own K G' (upd H' p (.ins C dx (putF f v vs))) (.ref p) (.oo t C (putC f c fs)) (p :: (as ++ cs)) :=
      .oo h2 upd_same (ownF_new (o.mono (Same.refl _) (Agree.upd npc)) (h4.mono (Same.refl _) (Agree.upd npa)) hf)
    have e3 := e2.put i ho (fun a m => ?_) (fun j a hj m1 m2 => ?_) ?_
    · have hσ : σ.set i (some (V.ref p)) = σ := by
        apply List.ext_getElem?
        intro j
        by_cases hj : i = j
        · subst hj
          rw [List.getElem?_set_self (List.getElem?_eq_some_iff.mp h1).1, h1]
        · rw [List.getElem?_set_ne hj]
      rw [hσ, List.set_set] at e3
      exact fi.nx _ σ G' _ k ⟨_, e3⟩
    · rcases List.mem_cons.mp m with m | m
      · rw [m]
        exact ⟨(e'.fr i p hp).1, (e'.fr i p hp).2.1⟩
      · rcases List.mem_append.mp m with m | m
        · have := e'.fr i a (by rw [h5]; exact List.mem_cons_of_mem _ m)
          exact ⟨this.1, this.2.1⟩
        · exact ⟨none_back e.gr.h (hn a m).1, (hn a m).2⟩
    · rw [if_neg hj] at m1
      rcases List.mem_cons.mp m2 with m | m
      · exact e'.di j i a hj m1 (by rw [h5, m]; exact List.mem_cons_self)
      · rcases List.mem_append.mp m with m | m
        · exact e'.di j i a hj m1 (by rw [h5]; exact List.mem_cons_of_mem _ m)
        · exact (e.fr j a m1).2.2.ne (hn a m).1
    · refine List.nodup_cons.mpr ⟨fun m => ?_, List.nodup_append.mpr ⟨(List.nodup_cons.mp nda).2, nd, fun a m b mb z => ?_⟩⟩
      · rcases List.mem_append.mp m with m | m
        · exact npa m
        · exact npc m
      · subst z
        exact (e.fr i a (by rw [h5]; exact List.mem_cons_of_mem _ m)).2.2.ne (hn a mb).1
  cases c with
  | st d => exact (show DEo K te Γ d from h) σ bs G H ⟨A, e⟩ _ fun v G' H' g r => main v G' H' [] g (.st r) List.nodup_nil fun _ m => (List.not_mem_nil m).elim
  | ow ds =>
    refine (show DXo K te Γ (.ow ds) from h) σ bs G H ⟨A, e⟩ _ fun v G' H' as g n => ?_
    obtain ⟨o, nd, fr⟩ := n
    cases o with
    | ow a1 a2 => exact main _ G' H' _ g (.ow a1 a2) nd fr
theorem ds_fldI {t : Option Addr} {C : Addr} {fs fs' : List (Str × Ch)} {f : Str} {P : Post} {c : Ch} (i : Nat) (hi : Γ[i]? = some (.oo t C fs)) (hC : Cls K C) (hN : NoAttr K C f) (hf : lookC fs f = none) (hl : fs.length < 1000) (hp : putC f c fs = fs')
    (h : ChE K te Γ c) (k : P.nx (Γ.set i (.oo t C fs'))) : DS K (sFld K (tVar i) te f) Γ P := ds_fld i hi hC hN hf hl h (by rw [hp]; exact k)
/-- a list that hangs in an object of one's own -/
theorem ownF_list {G H : Hp} {f : Str} {ds es : List D} : ∀ {vs : List (Str × V)} {fs : List (Str × Ch)} {as : List Addr}, OwnF K G H vs fs as → as.Nodup → lookC fs f = some (.ow ds) →
    ∃ l ws, vs.lookup f = some (.ref l) ∧ H l = some (.lst ws) ∧ RepA K G ws ds ∧ l ∈ as ∧ ∀ us es, RepA K G us es → OwnF K G (upd H l (.lst us)) vs (putC f (.ow es) fs) as
  | _, _, _, .nil, _, h => by cases h
  | _, _, _, .cons (f := g) (v := u) (vs := vs) (c := x) (cs := fs) (as := a1) (bs := b1) p r, nd, h => by
    have nd2 := List.nodup_append.mp nd
    rw [lookup_cons]
    unfold lookC at h
    split at h
    · rename_i e
      cases h
      cases p with
      | @ow l ws _ q1 q2 =>
        refine ⟨l, ws, by rw [if_pos e], q1, q2, List.mem_append_left _ List.mem_cons_self, fun us es ru => ?_⟩
        show OwnF K G _ ((g, V.ref l) :: vs) (if g = f then (g, .ow es) :: fs else _) _
        rw [if_pos e.symm]
        exact .cons (.ow upd_same ru) (r.mono (Same.refl G) (Agree.upd fun m => nd2.2.2 l List.mem_cons_self l m rfl))
    · rename_i e
      obtain ⟨l, ws, h1, h2, h3, h4, h5⟩ := ownF_list (ds := ds) (es := es) r nd2.2.1 h
      refine ⟨l, ws, by rw [if_neg e]; exact h1, h2, h3, List.mem_append_right _ h4, fun us es ru => ?_⟩
      show OwnF K G _ ((g, u) :: vs) (if g = f then _ else (g, x) :: putC f (.ow es) fs) _
      rw [if_neg fun z => e z.symm]
      exact .cons (p.mono (Same.refl G) (Agree.upd fun m => nd2.2.2 l m l h4 rfl)) (h5 us es ru)
section
variable {bs : Base} {G H : Hp} {σ : L2.St} {A : Nat → List Addr} {t : Option Addr} {C : Addr} {fs : List (Str × Ch)} {i : Nat} {f : Str} {ds : List D}
theorem oo_list (e : EnvA K bs G H σ Γ A) (hi : Γ[i]? = some (.oo t C fs)) (hf : lookC fs f = some (.ow ds)) : ∃ p dx vs l ws, σ[i]? = some (some (.ref p)) ∧ H p = some (.ins C dx vs) ∧ vs.lookup f = some (.ref l) ∧ H l = some (.lst ws) ∧ RepA K G ws ds ∧
    ∀ us es, RepA K G us es → EnvA K bs G (upd H l (.lst us)) σ (Γ.set i (.oo t C (putC f (.ow es) fs))) A := by
  obtain ⟨p, dx, vs, as, h1, h2, h3, h4, h5⟩ := oo_at e hi
  have nd := e.nd i
  rw [h5] at nd
  obtain ⟨l, ws, q1, q2, q3, q4, q5⟩ := ownF_list (es := []) h4 (List.nodup_cons.mp nd).2 hf
  refine ⟨p, dx, vs, l, ws, h1, h3, q1, q2, q3, fun us es ru => e.change trivial hi h1 (by rw [h5]; exact List.mem_cons_of_mem _ q4) ?_⟩
  rw [h5]
  refine .oo (dx := dx) (vs := vs) h2 ?_ (q5 us es ru)
  rw [upd_ne fun z => (List.nodup_cons.mp nd).1 (by rw [z]; exact q4)]
  exact h3
end
/-- x.f.append(e) -/
theorem ds_fapp {t : Option Addr} {C : Addr} {fs : List (Str × Ch)} {f : Str} {P : Post} {ds : List D} (i : Nat) (hi : Γ[i]? = some (.oo t C fs)) (hC : Cls K C) (hN : NoAttr K C f) (hf : lookC fs f = some (.ow ds)) (h : DEo K te Γ d) (hl : ds.length ≤ 100000)
    (k : P.nx (Γ.set i (.oo t C (putC f (.ow (ds ++ [d])) fs)))) : DS K (tDrop (tBM K "list" rAppend (tFld K (tVar i) f) (tCons te tNil))) Γ P := fun bs σ G H Dn ⟨A, e⟩ fi => by
  obtain ⟨p, dx, vs, l, ws, h1, h2, h3, h4, h5, h6⟩ := oo_list e hi hf
  refine ⟨_, h1, p, C, dx, vs, _, rfl, h2, hC, hN, h3, Or.inl ⟨rfl, _, Or.inl (Or.inl h4)⟩, h σ bs G H ⟨A, e⟩ _ fun v G' H' g r => ?_⟩
  obtain ⟨p', dx', vs', l', ws', q1, q2, q3, q4, q5, q6⟩ := oo_list (e.grow g) hi hf
  rw [h1] at q1
  cases q1
  rw [g.h _ _ h2] at q2
  cases q2
  rw [h3] at q3
  cases q3
  refine ⟨l, ws', v, rfl, rfl, q4, ?_, fi.nx _ _ G' _ k ⟨A, q6 _ _ (q5.app (.cons r .nil))⟩⟩
  rw [q5.len]
  exact Nat.lt_of_le_of_lt hl (by decide)
/-- x.f.pop() -/
theorem ds_fpop {t : Option Addr} {C : Addr} {fs : List (Str × Ch)} {f : Str} {P : Post} {ds : List D} (i : Nat) (hi : Γ[i]? = some (.oo t C fs)) (hC : Cls K C) (hN : NoAttr K C f) (hf : lookC fs f = some (.ow (ds ++ [d])))
    (k : P.nx (Γ.set i (.oo t C (putC f (.ow ds) fs)))) : DS K (tDrop (tBM0 K "list" rPop (tFld K (tVar i) f))) Γ P := fun bs σ G H Dn ⟨A, e⟩ fi => by
  obtain ⟨p, dx, vs, l, ws, h1, h2, h3, h4, h5, h6⟩ := oo_list e hi hf
  have hn : (ds ++ [d])[ws.length - 1]? = some d := by
    rw [h5.len, List.length_append, List.length_singleton, Nat.add_sub_cancel, List.getElem?_append_right (Nat.le_refl _), Nat.sub_self]
    rfl
  obtain ⟨v, hv, rv⟩ := h5.at hn
  have hr := h5.dropLast
  rw [List.dropLast_concat] at hr
  exact ⟨_, h1, p, C, dx, vs, _, rfl, h2, hC, hN, h3, Or.inl ⟨rfl, _, Or.inl (Or.inl h4)⟩, l, ws, v, rfl, rfl, h4, hv, fi.nx _ _ G _ k ⟨A, h6 _ _ hr⟩⟩
end
theorem ds_fappI {Γ : List B} {te : TE} {d : D} {t : Option Addr} {C : Addr} {fs fs' : List (Str × Ch)} {f : Str} {P : Post} {ds : List D} (i : Nat) (hi : Γ[i]? = some (.oo t C fs)) (hC : Cls K C) (hN : NoAttr K C f) (hf : lookC fs f = some (.ow ds)) (hp : putC f (.ow (ds ++ [d])) fs = fs') (h : DEo K te Γ d) (hl : ds.length ≤ 100000)
    (k : P.nx (Γ.set i (.oo t C fs'))) : DS K (tDrop (tBM K "list" rAppend (tFld K (tVar i) f) (tCons te tNil))) Γ P := ds_fapp i hi hC hN hf h hl (by rw [hp]; exact k)
theorem ds_fpopI {Γ : List B} {d : D} {t : Option Addr} {C : Addr} {fs fs' : List (Str × Ch)} {f : Str} {P : Post} {ds : List D} (i : Nat) (hi : Γ[i]? = some (.oo t C fs)) (hC : Cls K C) (hN : NoAttr K C f) (hf : lookC fs f = some (.ow (ds ++ [d]))) (hp : putC f (.ow ds) fs = fs')
    (k : P.nx (Γ.set i (.oo t C fs'))) : DS K (tDrop (tBM0 K "list" rPop (tFld K (tVar i) f))) Γ P := ds_fpop i hi hC hN hf (by rw [hp]; exact k)
/-- list(x) for a list of one's own -/
theorem dx_list {Γ : List B} {ta : TA} {ds : List D} (h : DAr K ta Γ [.lst ds]) : DX K (tCB (rListX K) ta) Γ (.ow ds) := fun σ G H e s Q q =>
  h σ G H e s _ fun vs G1 H1 g1 r1 => by
    cases r1 with
    | cons a b =>
      cases b
      cases a with
      | @lst a ws _ hs ra =>
        refine ⟨a, ws, rfl, .inl (ls_same g1.i hs).sq, fun l hl => ?_⟩
        exact q (.ref l) G1 _ [l] (g1.trans (Grow.side g1.i (same_new hl))) ((New.list g1.i hl ra).back g1.h)
/-- a call that hands a new thing, given up at once -/
theorem de_callO {R : List D → B → Prop} {E : XK} {ta : TA} {Γ : List B} {ds : List D} {b : B} {d : D} {n : Nat} (h : DAr K ta Γ ds) (hR : R ds b) (hn : ds.length = n) (e : b.d = d) : DE K (tCall (spO K n R) [] E ta) Γ d := de_new (dx_call h hR hn) e
theorem dx_rev {te : TE} {Γ : List B} {ds : List D} (h : DE K te Γ (.lst ds)) : DX K (tRevL K te) Γ (.ow ds.reverse) := fun σ G H e s Q q =>
  h σ G H e s _ fun v G1 H1 g1 r1 => by
    cases r1 with
    | lst a b =>
      exact ⟨_, _, rfl, (ls_same g1.i a).sq, fun p hp => q _ G1 _ [p] (g1.trans (Grow.side g1.i (same_new hp))) ((New.list g1.i hp b.rev).back g1.h)⟩
/-! ## a list of lists of one's own -/
def DAX (K : PySem.W.Frag) (ta : TA) (Γ : List B) (cs : List Ch) : Prop := ∀ (σ : L2.St) (G H : Hp), Same G H → Sl K G σ Γ → ∀ Q : List V → Hp → Prop, (∀ vs G' H' as, Grow G H G' H' → OwnL K G' H' vs cs as → as.Nodup → (∀ a ∈ as, H a = none ∧ G' a = none) → Q vs H') → ta σ H Q
section
variable {Γ : List B} {te : TE} {ta tr : TA} {d : D} {ds : List D} {cs : List Ch}
theorem dax_nil : DAX K tNil Γ [] := fun σ G H e s Q q => q [] G H [] (Grow.refl e) .nil List.nodup_nil fun _ m => (List.not_mem_nil m).elim
theorem dax_cons (h : DX K te Γ (.ow ds)) (hr : DAX K tr Γ cs) : DAX K (tCons te tr) Γ (.ow ds :: cs) := fun σ G H e s Q q =>
  h σ G H e s _ fun v G1 H1 as g1 n1 => hr σ G1 H1 g1.i (s.mono g1.g) _ fun vs G2 H2 bs g2 o2 nd2 f2 => by
    obtain ⟨o, nd, fr⟩ := n1
    cases o with
    | @ow l ws _ h1 h2 =>
      have hl := fr l List.mem_cons_self
      refine q _ G2 H2 ([l] ++ bs) (g1.trans g2) (.cons (.ow (g2.h _ _ h1) (h2.mono g2.g)) o2) (List.nodup_append.mpr ⟨nd, nd2, fun a m b mb z => ?_⟩) fun a m => ?_
      · rw [List.mem_singleton.mp m] at z
        subst z
        rw [(f2 l mb).1] at h1
        cases h1
      · rcases List.mem_append.mp m with m | m
        · rw [List.mem_singleton.mp m]
          exact ⟨hl.1, g2.u l hl.2 (by rw [h1]; exact fun z => by cases z)⟩
        · exact ⟨none_back g1.h (f2 a m).1, (f2 a m).2⟩
theorem dax_st (h : DE K te Γ d) (hr : DAX K tr Γ cs) : DAX K (tCons te tr) Γ (.st d :: cs) := fun σ G H e s Q q =>
  h σ G H e s _ fun v G1 H1 g1 r1 => hr σ G1 H1 g1.i (s.mono g1.g) _ fun vs G2 H2 bs g2 o2 nd2 f2 =>
    q _ G2 H2 ([] ++ bs) (g1.trans g2) (.cons (.st (r1.mono g2.g)) o2) nd2 fun a m => ⟨none_back g1.h (f2 a m).1, (f2 a m).2⟩
theorem OwnL.len {G H : Hp} : ∀ {vs : List V} {cs : List Ch} {as : List Addr}, OwnL K G H vs cs as → vs.length = cs.length
  | _, _, _, .nil => rfl
  | _, _, _, .cons _ r => congrArg (· + 1) (OwnL.len r)
theorem dx_ol (h : DAX K ta Γ cs) (hl : cs.length ≤ 1000) : DX K (tLst ta) Γ (.ol cs) := fun σ G H e s Q q =>
  h σ G H e s _ fun vs G1 H1 as g1 o nd fr => ⟨by rw [o.len]; exact Nat.le_trans hl (by decide), fun p hp => by
    have np : ¬ p ∈ as := fun m => (o.ex p m).ne hp
    refine q (.ref p) G1 _ (p :: as) (g1.trans (Grow.side g1.i (same_new hp))) ⟨.ol upd_same (o.mono (Same.refl _) (Agree.upd np)), List.nodup_cons.mpr ⟨np, nd⟩, fun a m => ?_⟩
    rcases List.mem_cons.mp m with m | m
    · rw [m]
      exact ⟨none_back g1.h hp, none_back g1.i hp⟩
    · exact fr a m⟩
theorem ownL_list {G H : Hp} {ds : List D} : ∀ {vs : List V} {cs : List Ch} {as : List Addr} {k : Nat}, OwnL K G H vs cs as → as.Nodup → cs[k]? = some (.ow ds) →
    ∃ l ws, vs[k]? = some (.ref l) ∧ H l = some (.lst ws) ∧ RepA K G ws ds ∧ l ∈ as ∧ ∀ us es, RepA K G us es → OwnL K G (upd H l (.lst us)) vs (cs.set k (.ow es)) as
  | _, _, _, _, .nil, _, h => by cases h
  | _, _, _, 0, .cons (as := a1) (bs := b1) p r, nd, h => by
    have nd2 := List.nodup_append.mp nd
    cases h
    cases p with
    | @ow l ws _ q1 q2 =>
      exact ⟨l, ws, rfl, q1, q2, List.mem_append_left _ List.mem_cons_self, fun us es ru => .cons (.ow upd_same ru) (r.mono (Same.refl G) (Agree.upd fun m => nd2.2.2 l List.mem_cons_self l m rfl))⟩
  | _, _, _, k + 1, .cons (as := a1) (bs := b1) p r, nd, h => by
    have nd2 := List.nodup_append.mp nd
    obtain ⟨l, ws, h1, h2, h3, h4, h5⟩ := ownL_list (k := k) r nd2.2.1 (by simpa using h)
    exact ⟨l, ws, by simpa using h1, h2, h3, List.mem_append_right _ h4, fun us es ru => .cons (p.mono (Same.refl G) (Agree.upd fun m => nd2.2.2 l m l h4 rfl)) (h5 us es ru)⟩
section
variable {bs : Base} {G H : Hp} {σ : L2.St} {A : Nat → List Addr} {i k : Nat}
theorem ol_list (e : EnvA K bs G H σ Γ A) (hi : Γ[i]? = some (.ol cs)) (hk : cs[k]? = some (.ow ds)) : ∃ p vs l ws, σ[i]? = some (some (.ref p)) ∧ H p = some (.lst vs) ∧ vs.length = cs.length ∧ vs[k]? = some (.ref l) ∧ H l = some (.lst ws) ∧ RepA K G ws ds ∧
    ∀ us es, RepA K G us es → EnvA K bs G (upd H l (.lst us)) σ (Γ.set i (.ol (cs.set k (.ow es)))) A := by
  obtain ⟨v, h1, h2⟩ := e.at_ i _ hi (fun z => by cases z)
  have nd := e.nd i
  generalize hA : A i = as at h2 nd
  cases h2 with
  | @ol p vs _ as h3 h4 =>
    obtain ⟨l, ws, q1, q2, q3, q4, q5⟩ := ownL_list h4 (List.nodup_cons.mp nd).2 hk
    refine ⟨p, vs, l, ws, h1, h3, h4.len, q1, q2, q3, fun us es ru => e.change trivial hi h1 (by rw [hA]; exact List.mem_cons_of_mem _ q4) ?_⟩
    rw [hA]
    refine .ol (vs := vs) ?_ (q5 us es ru)
    rw [upd_ne fun z => (List.nodup_cons.mp nd).1 (by rw [z]; exact q4)]
    exact h3
end
/-- x[k].append(e), x a list of lists of one's own -/
theorem ds_oapp {P : Post} {ti : TE} {m : Int} (i k : Nat) (hi : Γ[i]? = some (.ol cs)) (hm : DE K ti Γ (.int m)) (hk : ixN cs.length m = some k) (hc : cs[k]? = some (.ow ds)) (h : DEo K te Γ d) (hl : ds.length ≤ 100000)
    (kk : P.nx (Γ.set i (.ol (cs.set k (.ow (ds ++ [d])))))) : DS K (tDrop (tBM K "list" rAppend (tOp (rIx K) (tVar i) ti) (tCons te tNil))) Γ P := fun bs σ G H Dn ⟨A, e⟩ fi => by
  obtain ⟨p, vs, l, ws, h1, _, _, _, _, _, _⟩ := ol_list e hi hc
  refine ⟨_, h1, hm σ G H e.gr.i e.sl _ fun v0 G0 H0 g0 r0 => ?_⟩
  cases r0
  obtain ⟨p', vs', l', ws', q1, q2, qn, q3, q4, q5, q6⟩ := ol_list (e.grow g0) hi hc
  rw [h1] at q1
  cases q1
  refine .inl ⟨p, vs', m, .ref l', rfl, rfl, (LsX.of q2).sq, ?_, ?_⟩
  · unfold atI
    rw [qn, hk]
    exact q3
  refine ⟨Or.inl ⟨rfl, _, Or.inl (Or.inl q4)⟩, h σ bs G0 H0 ⟨A, e.grow g0⟩ _ fun v G' H' g r => ?_⟩
  obtain ⟨p2, vs2, l2, ws2, t1, t2, tn, t3, t4, t5, t6⟩ := ol_list ((e.grow g0).grow g) hi hc
  rw [h1] at t1
  cases t1
  rw [g.h _ _ q2] at t2
  cases t2
  rw [q3] at t3
  cases t3
  refine ⟨l', ws2, v, rfl, rfl, t4, ?_, fi.nx _ _ G' _ kk ⟨A, t6 _ _ (t5.app (.cons r .nil))⟩⟩
  rw [t5.len]
  exact Nat.lt_of_le_of_lt hl (by decide)
/-- x, y, z = [], [], e: two lists of one's own -/
theorem ds_par3O {P : Post} (i j l : Nat) (hij : i ≠ j) (h : DE K te Γ d) (k : P.nx (((Γ.set i (.ow [])).set j (.ow [])).set l (.im d))) : DS K (tPar3 i j l (tCons (tLst tNil) (tCons (tLst tNil) (tCons te tNil)))) Γ P := fun bs σ G H Dn ⟨A, e⟩ fi => by
  refine ⟨Nat.zero_le _, fun p hp => ⟨Nat.zero_le _, fun r hr => ?_⟩⟩
  have s1 : Same H (upd H p (.lst [])) := same_new hp
  have s2 : Same (upd H p (.lst [])) (upd (upd H p (.lst [])) r (.lst [])) := same_new hr
  have hrp : r ≠ p := fun z => by
    rw [z, upd_same] at hr
    cases hr
  have hr0 : H r = none := none_back s1 hr
  refine h σ G _ ((e.gr.i.trans s1).trans s2) e.sl _ fun v G' H' g rv => ⟨_, _, _, rfl, fi.nx _ _ G' H' k ?_⟩
  have gg : Grow G H G' H' := (Grow.side e.gr.i (s1.trans s2)).trans g
  have hp' : H' p = some (.lst []) := g.h _ _ (s2 _ _ upd_same)
  have hr' : H' r = some (.lst []) := g.h _ _ upd_same
  have gp : G' p = none := g.u p (none_back e.gr.i hp) (by rw [s2 _ _ upd_same]; exact fun z => by cases z)
  have gr : G' r = none := g.u r (none_back e.gr.i hr0) (by rw [upd_same]; exact fun z => by cases z)
  have e1 := (e.grow gg).put i (.ow hp' .nil) (as := [p]) (fun a m => by rw [List.mem_singleton.mp m]; exact ⟨none_back e.gr.h hp, gp⟩) (fun j' a _ m1 m2 => by
    rw [List.mem_singleton.mp m2] at m1
    exact (e.fr j' p m1).2.2.ne hp) (List.nodup_cons.mpr ⟨by simp, List.nodup_nil⟩)
  have e2 := e1.put j (.ow hr' .nil) (as := [r]) (fun a m => by rw [List.mem_singleton.mp m]; exact ⟨none_back e.gr.h hr0, gr⟩) (fun j' a _ m1 m2 => by
    rw [List.mem_singleton.mp m2] at m1
    split at m1
    · exact hrp (List.mem_singleton.mp m1)
    · exact (e.fr j' r m1).2.2.ne hr0) (List.nodup_cons.mpr ⟨by simp, List.nodup_nil⟩)
  exact EnvD.set ⟨_, e2⟩ l rv
end
end DL

/-! DR: lists of one's own, read for new ones; things made of lists of one's own; two places exchanged. -/
namespace DL
open PySem PySem.Spec PyProof.Rows L2
variable {K : PySem.W.Frag}
section
variable {Γ Γ' : List B} {te ta tb ti tj : TE} {d : D} {ds es : List D}
/-- a new list of flat things, made while one's own lists are read -/
theorem dxo_fz (h : DX K te (fz Γ) (.ow ds)) (hf : ds.all flat = true) : DXo K te Γ (.ow ds) := fun σ bs G H e Q q =>
  h σ H H (Same.refl H) e.fz Q fun v G' H' as g n => q v G H' as (Grow.side e.gr.i g.h) ⟨by
    have o := n.o
    generalize hA : as = as' at o
    cases o with
    | ow a r => exact .ow a (r.flat hf), n.nd, fun a m => ⟨(n.fr a m).1, none_back e.gr.i (n.fr a m).1⟩⟩
/-- a + b: a new list -/
theorem dx_cat (ha : DE K ta Γ (.lst ds)) (hb : DE K tb Γ (.lst es)) (h : ds.length + es.length ≤ 100000) : DX K (tOp (rAddX K) ta tb) Γ (.ow (ds ++ es)) := fun σ G H e s Q q =>
  ha σ G H e s _ fun x G1 H1 g1 r1 => hb σ G1 H1 g1.i (s.mono g1.g) _ fun y G2 H2 g2 r2 => by
    have r1' := r1.mono g2.g
    cases r1' with
    | lst h1 a1 =>
      cases r2 with
      | lst h2 a2 =>
        refine .inr ⟨_, _, _, _, rfl, rfl, ls_same g2.i h1, ls_same g2.i h2, ?_, fun p hp => q _ G2 _ [p] ((g1.trans g2).trans (Grow.side g2.i (same_new hp))) ((New.list g2.i hp (a1.app a2)).back (g1.trans g2).h)⟩
        rw [a1.len, a2.len]
        exact Nat.le_trans h (by decide)
/-- a[i], a[j] = x, y in a list of one's own -/
theorem ds_swap {P : Post} {m m2 : Int} {x y : D} {n n2 : Nat} (i : Nat) (hi : Γ[i]? = some (.ow ds)) (h : DAo K (tCons ta (tCons tb tNil)) Γ [x, y]) (hm : DEo K ti Γ (.int m)) (hn : ixN ds.length m = some n) (hm2 : DEo K tj (Γ.set i (.ow (ds.set n x))) (.int m2)) (hn2 : ixN ds.length m2 = some n2)
    (k : P.nx (Γ.set i (.ow ((ds.set n x).set n2 y)))) : DS K (tAsg (tTup (tCons ta (tCons tb tNil))) (gTup K 2 (gCons (gSub (tVar i) ti rSetL) (gCons (gSub (tVar i) tj rSetL) gNil)))) Γ P := fun bs σ G H Dn ⟨A, e⟩ f => by
  show (tCons ta (tCons tb tNil)) σ H fun xs H1 => xs.length ≤ sizeLine ∧ ∀ p, H1 p = none → (gTup K 2 (gCons (gSub (tVar i) ti rSetL) (gCons (gSub (tVar i) tj rSetL) gNil))) (.ref p) σ (upd H1 p (.tup xs)) Dn.nx
  refine h σ bs G H ⟨A, e⟩ _ fun vs G1 H1 g1 r1 => ⟨by rw [r1.len]; exact show 2 ≤ sizeLine by decide, fun p hp => ?_⟩
  cases r1 with
  | @cons v1 _ _ _ rx r1 =>
    cases r1 with
    | @cons v2 _ _ _ ry r1 =>
      cases r1
      refine ⟨p, _, rfl, .inl (Rd.of upd_same), rfl, ?_⟩
      refine ⟨_, _, rfl, ?_⟩
      have gg : Grow G1 H1 G1 (upd H1 p (.tup [v1, v2])) := Grow.side g1.i (same_new hp)
      have e1 := (e.grow g1).grow gg
      obtain ⟨l, us, h1, h2, h3, _⟩ := own_at e1 hi
      refine ⟨_, h1, hm σ bs _ _ ⟨A, e1⟩ _ fun w G2 H2 g2 r2 => ?_⟩
      cases r2
      have e2 := e1.grow g2
      obtain ⟨l', us', a1, a2, a3, _⟩ := own_at e2 hi
      rw [h1] at a1
      cases a1
      refine ⟨l, us', m, n, rfl, rfl, a2, by rw [a3.len]; exact hn, ?_⟩
      have e3 := own_set e2 hi h1 (a3.set (rx.mono (gg.g.trans g2.g)) n)
      refine ⟨_, _, rfl, ?_⟩
      have hl : i < Γ.length := (List.getElem?_eq_some_iff.mp hi).1
      have hi3 : (Γ.set i (.ow (ds.set n x)))[i]? = some (.ow (ds.set n x)) := List.getElem?_set_self hl
      obtain ⟨l3, us3, b1, b2, b3, _⟩ := own_at e3 hi3
      refine ⟨_, b1, hm2 σ bs _ _ ⟨A, e3⟩ _ fun w G4 H4 g4 r4 => ?_⟩
      cases r4
      have e4 := e3.grow g4
      obtain ⟨l', us', c1, c2, c3, _⟩ := own_at e4 hi3
      rw [b1] at c1
      cases c1
      refine ⟨l3, us', m2, n2, rfl, rfl, c2, by rw [c3.len, List.length_set]; exact hn2, rfl, ?_⟩
      have e5 := own_set e4 hi3 b1 (c3.set (ry.mono ((gg.g.trans g2.g).trans g4.g)) n2)
      rw [List.set_set] at e5
      exact f.nx _ _ G4 _ k ⟨A, e5⟩
/-! ## things made of lists of one's own: what stands in them goes through as it is -/
/-- the one holds the values themselves, the other what they are -/
inductive LiftC (K : PySem.W.Frag) (G : Hp) : Ch → Ch → Prop
  | st {d : D} : flat d = true → LiftC K G (.st d) (.st d)
  | ow {us : List V} {ds : List D} : RepA K G us ds → LiftC K G (.ow (us.map D.op)) (.ow ds)
inductive LiftF (K : PySem.W.Frag) (G : Hp) : List (Str × Ch) → List (Str × Ch) → Prop
  | nil : LiftF K G [] []
  | cons {f : Str} {c c' : Ch} {r r' : List (Str × Ch)} : LiftC K G c c' → LiftF K G r r' → LiftF K G ((f, c) :: r) ((f, c') :: r')
theorem repA_op {G : Hp} : ∀ {vs us : List V}, RepA K G vs (us.map D.op) → vs = us
  | _, [], .nil => rfl
  | _, u :: us, .cons h r => by
    rw [repA_op r]
    cases h
    rfl
theorem op_repA {G : Hp} : ∀ us : List V, RepA K G us (us.map D.op)
  | [] => .nil
  | u :: us => .cons (.op u) (op_repA us)
theorem OwnC.lift {G G' H : Hp} {v : V} {c c' : Ch} {as : List Addr} (o : OwnC K G' H v c as) (l : LiftC K G c c') : OwnC K G H v c' as := by
  cases l with
  | st hf =>
    cases o with
    | st r => exact .st (r.flat hf)
  | ow r =>
    cases o with
    | ow h r' =>
      rw [repA_op r'] at h
      exact .ow h r
theorem OwnF.lift {G G' H : Hp} : ∀ {vs : List (Str × V)} {fs fs' : List (Str × Ch)} {as : List Addr}, OwnF K G' H vs fs as → LiftF K G fs fs' → OwnF K G H vs fs' as
  | _, _, _, _, .nil, .nil => .nil
  | _, _, _, _, .cons o r, .cons l s => .cons (o.lift l) (OwnF.lift r s)
theorem lift_new {G G' H H' : Hp} {v : V} {t : Option Addr} {C : Addr} {fs fs' : List (Str × Ch)} {as : List Addr} (e : Same G H) (n : New K H G' H' v (.oo t C fs) as) (l : LiftF K G fs fs') : New K H G H' v (.oo t C fs') as := ⟨by
    have o := n.o
    generalize as = as' at o
    cases o with
    | oo t h r => exact .oo t h (r.lift l), n.nd, fun a m => ⟨(n.fr a m).1, none_back e (n.fr a m).1⟩⟩
/-- the slots, one of them laid open -/
theorem sl_open {bs : Base} {G H : Hp} {σ : L2.St} {A : Nat → List Addr} (e : EnvA K bs G H σ Γ A) (i : Nat) {v : V} (hv : σ[i]? = some (some v)) (r : Rep K H v d) : Sl K H σ (Γ.set i (.im d)) := ⟨fun j c h => by
    rcases set_get h with ⟨rfl, z, hlt⟩ | ⟨hij, h⟩
    · cases z
      exact ⟨v, hv, r⟩
    · obtain ⟨w, h1, h2⟩ := e.at_ j _ h (fun z => by cases z)
      exact ⟨w, h1, h2.im_rep.mono e.gr.i⟩, by rw [List.length_set]; exact e.len, e.tb.mono e.gr.i⟩
/-- C(l, ..), l a list of one's own -/
theorem dxo_op1 {t : Option Addr} {C : Addr} {fs : List (Str × Ch)} (F : List D → List (Str × Ch)) (i : Nat) (hi : Γ[i]? = some (.ow ds)) (h : ∀ us : List V, us.length = ds.length → DX K te (Γ.set i (.im (.lst (us.map D.op)))) (.oo t C (F (us.map D.op)))) (hl : ∀ G us, RepA K G us ds → LiftF K G (F (us.map D.op)) fs) : DXo K te Γ (.oo t C fs) := fun σ bs G H ⟨A, e⟩ Q q => by
  obtain ⟨l, us, h1, h2, h3, _⟩ := own_at e hi
  exact h us h3.len σ H H (Same.refl H) (sl_open e i h1 (.lst (LsX.of h2) (op_repA us))) Q fun v G' H' as g n => q v G H' as (Grow.side e.gr.i g.h) (lift_new e.gr.i n (hl G us h3))
/-- C(l[0], l[1]), l a list of two lists of one's own -/
theorem dxo_op2 {t : Option Addr} {C : Addr} {fs : List (Str × Ch)} (F : List D → List D → List (Str × Ch)) (i : Nat) (hi : Γ[i]? = some (.ol [.ow ds, .ow es])) (h : ∀ us ws : List V, us.length = ds.length → ws.length = es.length → DX K te (Γ.set i (.im (.lst [.lst (us.map D.op), .lst (ws.map D.op)]))) (.oo t C (F (us.map D.op) (ws.map D.op)))) (hl : ∀ G us ws, RepA K G us ds → RepA K G ws es → LiftF K G (F (us.map D.op) (ws.map D.op)) fs) : DXo K te Γ (.oo t C fs) := fun σ bs G H ⟨A, e⟩ Q q => by
  obtain ⟨v, h1, h2⟩ := e.at_ i _ hi (fun z => by cases z)
  generalize A i = as at h2
  cases h2 with
  | ol hv o =>
    cases o with
    | cons o1 o =>
      cases o with
      | cons o2 o =>
        cases o
        cases o1 with
        | @ow _ us _ a1 a2 =>
          cases o2 with
          | @ow _ ws _ b1 b2 =>
            exact h us ws a2.len b2.len σ H H (Same.refl H) (sl_open e i h1 (.lst (LsX.of hv) (.cons (.lst (LsX.of a1) (op_repA us)) (.cons (.lst (LsX.of b1) (op_repA ws)) .nil)))) Q fun v G' H' as g n => q v G H' as (Grow.side e.gr.i g.h) (lift_new e.gr.i n (hl G us ws a2 b2))
end
end DL

/-! DU: defs that refuse; a try that catches the refusal. -/
namespace DL
open PySem PySem.Spec PyProof.Rows L2
variable {K : PySem.W.Frag}
/-- a def that hands back None, or refuses by the class at C -/
def spX (K : PySem.W.Frag) (n : Nat) (R : List D → Option Addr → Prop) : Sp := fun vs H Q E => ∃ (G : Hp) (ds : List D) (r : Option Addr), ds.length = n ∧ Same G H ∧ TabsK K G ∧ RepA K G vs ds ∧ R ds r ∧
  (r = none → ∀ G' H', Grow G H G' H' → Q .non H') ∧ ∀ C, r = some C → ∀ G' H', Grow G H G' H' → E (.ref C) none H'
/-- a statement that may end in the refusal r -/
def DSE (K : PySem.W.Frag) (E : XK) (r : Option Addr) (t : TS) (Γ : List B) (P : Post) : Prop := ∀ (bs : Base) (σ : L2.St) (G H : Hp) (Dn : Ends), EnvD K bs G H σ Γ → Fits K bs P Dn → (∀ C, r = some C → ∀ G' H', Grow bs.G bs.H G' H' → E (.ref C) none H') → t Dn σ H
/-- an expression that ends in the refusal by C -/
def DER (K : PySem.W.Frag) (E : L2.St → XK) (te : TE) (Γ : List B) (C : Addr) : Prop := ∀ (σ : L2.St) (bs : Base) (G H : Hp), EnvD K bs G H σ Γ → (∀ G' H', Grow G H G' H' → E σ (.ref C) none H') → ∀ Q, te σ H Q
section
variable {E : XK} {F : L2.St → XK} {r : Option Addr} {t u : TS} {Γ : List B} {P : Post} {C : Addr} {te ta tb : TE} {tx : TA} {c : TT} {ds : List D} {n : Nat} {b : Bool}
theorem dse_of (h : DS K t Γ P) : DSE K E r t Γ P := fun bs σ G H Dn e f _ => h bs σ G H Dn e f
theorem dse_seq (h : DSE K E r t Γ { P with nx := fun Γ' => DSE K E r u Γ' P }) : DSE K E r (tSeq t u) Γ P := fun bs σ G H Dn e f x =>
  h bs σ G H _ e ⟨fun Γ' σ' G' H' k e' => k bs σ' G' H' Dn e' f x, f.bk, f.ct, f.rt, f.ro⟩ x
theorem dse_raise : DSE K E (some C) (fun _ _ H => E (.ref C) none H) Γ P := fun bs σ G H Dn e f x => x C rfl G H e.gr
theorem dse_if (h : DTo K c Γ b) (h1 : b = true → DSE K E r t Γ P) (h2 : b = false → DSE K E r u Γ P) : DSE K E r (tIfS c t u) Γ P := fun bs σ G H Dn e f x =>
  h σ bs G H e _ fun G' H' g => by
    cases b with
    | true => exact h1 rfl bs σ G' H' Dn (e.grow g) f x
    | false => exact h2 rfl bs σ G' H' Dn (e.grow g) f x
theorem dse_next (h : P.nx Γ) : DSE K E r tNext Γ P := dse_of (ds_next h)
theorem dse_drop (h : DER K (fun _ => E) te Γ C) : DSE K E (some C) (tDrop te) Γ P := fun bs σ G H Dn e f x => h σ bs G H e (fun G' H' g => x C rfl G' H' (e.gr.trans g)) _
theorem dse_ret (h : DER K (fun _ => E) te Γ C) : DSE K E (some C) (tRet te) Γ P := fun bs σ G H Dn e f x => h σ bs G H e (fun G' H' g => x C rfl G' H' (e.gr.trans g)) _
theorem der_call {R : List D → Option Addr → Prop} (h : DAr K tx Γ ds) (hR : R ds (some C)) (hn : ds.length = n) : DER K (fun _ => E) (tCall (spX K n R) [] E tx) Γ C := fun σ bs G H e x Q =>
  h σ G H e.gr.i e.sl _ fun vs G1 H1 g1 r1 => ⟨G1, ds, some C, hn, g1.i, e.sl.tb.mono g1.g, by rw [List.append_nil]; exact r1, hR, fun z => (by cases z), fun C' z G' H' g => by
    cases z
    exact x G' H' (g1.trans g)⟩
theorem der_callS {R : List D → Option Addr → Prop} (h : DAr K tx Γ ds) (hR : R ds (some C)) (hn : ds.length = n) : DER K F (tCallS (spX K n R) F tx) Γ C := fun σ bs G H e x Q =>
  h σ G H e.gr.i e.sl _ fun vs G1 H1 g1 r1 => ⟨G1, ds, some C, hn, g1.i, e.sl.tb.mono g1.g, r1, hR, fun z => (by cases z), fun C' z G' H' g => by
    cases z
    exact x G' H' (g1.trans g)⟩
/-- the call goes through -/
theorem de_callN {R : List D → Option Addr → Prop} (h : DAr K tx Γ ds) (hR : R ds none) (hn : ds.length = n) : DE K (tCall (spX K n R) [] E tx) Γ .non := fun σ G H e s Q q =>
  h σ G H e s _ fun vs G1 H1 g1 r1 => ⟨G1, ds, none, hn, g1.i, s.tb.mono g1.g, by rw [List.append_nil]; exact r1, hR, fun _ G' H' g => q .non G' H' (g1.trans g) .non, fun C z => by cases z⟩
theorem der_if (h : DTo K c Γ b) (h1 : b = true → DER K F ta Γ C) (h2 : b = false → DER K F tb Γ C) : DER K F (tIf c ta tb) Γ C := fun σ bs G H e x Q =>
  h σ bs G H e _ fun G' H' g => by
    cases b with
    | true => exact h1 rfl σ bs G' H' (e.grow g) (fun G2 H2 g2 => x G2 H2 (g.trans g2)) Q
    | false => exact h2 rfl σ bs G' H' (e.grow g) (fun G2 H2 g2 => x G2 H2 (g.trans g2)) Q
theorem der_1 (h : DER K F ta Γ C) : DER K F (fun σ H Q => ta σ H Q ∨ tb σ H Q) Γ C := fun σ bs G H e x Q => .inl (h σ bs G H e x Q)
theorem der_2 (h : DER K F tb Γ C) : DER K F (fun σ H Q => ta σ H Q ∨ tb σ H Q) Γ C := fun σ bs G H e x Q => .inr (h σ bs G H e x Q)
end
/-! ## a call of what an expression hands -/
def tCallE (te : TE) (f : Addr) (sp : Sp) (E : XK) (t : TA) : TE := fun σ H Q => te σ H fun v H1 => v = .ref f ∧ t σ H1 fun vs H2 => sp vs H2 Q E
section
variable {X : Cx} {CX : CXT} {k : Nat} {f : Addr} {fd : FuncData} {ps : List Str} {sp : Sp} {E : XK} {pos : Pos} {a i e : Expr} {es : List Expr} {te : TE} {t : TA} {p2 : Pos}
theorem arm_call_sub (kws : List Keyword) (env : Env) : eval (.Call (.Subscript a i p2) es kws pos) env = (do
    callWith pos (← eval (.Subscript a i p2) env) [] (backTo pos (starEach es env)) (backToKw pos (keywordEach kws env))) := by
  rw [eval]
  intro _ _ _ z
  cases z
theorem pe_callE (G : FnOk X.prog X.w X.K X.mg X.base CX k f fd ps sp) (room : Room k X.A) (keep : PySem.W.keepIn X.K (.ref f) = true) (bnd : Binds X.K fd ps []) (out : Passes CX X E) (hf : PE X (.Subscript a i p2) te) (args : PA X (e :: es) t)
    (he : starEach (e :: es) X.env = (false, eval e X.env) :: starEach es X.env := by rfl) (hpl : (backTo pos (starEach es X.env)).any (·.1) = false := by rfl) : PE X (.Call (.Subscript a i p2) (e :: es) [] pos) (tCallE te f sp E t) := by
  refine ⟨fun pins z ρ M Q J want => ?_⟩
  rw [arm_call_sub]
  refine wpAny_bind (thn (hf.run pins z ρ M _ J want) fun u z1 ⟨v, M1, J1, r1, q1⟩ => ?_)
  obtain ⟨rfl, q1⟩ := q1
  cases r1
  refine PySem.W.callWith_K (h₀ := X.base) J1.ok.mod.kin keep (thn (args.run pos pins z1 ρ _ _ J1 q1) fun us z2 ⟨vs, M2, J2, r2, q2⟩ => ⟨J2.kIn, ?_⟩) he hpl
  exact run_fn (dvs := []) G room bnd .nil out J2 r2 (by rw [List.append_nil]; exact q2)
end
section
variable {E : XK} {Γ : List B} {C f : Addr} {te : TE} {tx : TA} {ds : List D} {n : Nat}
theorem der_callE {R : List D → Option Addr → Prop} (hf : DE K te Γ (.op (.ref f))) (h : DAr K tx Γ ds) (hR : R ds (some C)) (hn : ds.length = n) : DER K (fun _ => E) (tCallE te f (spX K n R) E tx) Γ C := fun σ bs G H e x Q =>
  hf σ G H e.gr.i e.sl _ fun v G0 H0 g0 r0 => by
    cases r0
    exact ⟨rfl, h σ G0 H0 g0.i (e.sl.mono g0.g) _ fun vs G1 H1 g1 r1 => ⟨G1, ds, some C, hn, g1.i, (e.sl.tb.mono g0.g).mono g1.g, r1, hR, fun z => (by cases z), fun C' z G' H' g => by
      cases z
      exact x G' H' ((g0.trans g1).trans g)⟩⟩
/-- a local that holds a def -/
theorem de_callL {R : List D → D → Prop} {d : D} {i : Nat} (hi : Γ[i]? = some (.im (.op (.ref f)))) (h : DAr K tx Γ ds) (hR : R ds d) (hn : ds.length = n) : DE K (tCallL i f (spR K n R) [] E tx) Γ d := fun σ G H e s Q q => by
  obtain ⟨v, h1, h2⟩ := s.im i _ hi
  cases h2
  exact ⟨h1, h σ G H e s _ fun vs G1 H1 g1 r1 => ⟨G1, ds, d, hn, g1.i, s.tb.mono g1.g, by rw [List.append_nil]; exact r1, hR, fun v G' H' g r => q v G' H' (g1.trans g) r⟩⟩
theorem de_fn : DE K (tC (.ref f)) Γ (.op (.ref f)) := de_c fun _ => .op _
end
end DL

/-! DV: the def that refuses, as a whole; what runs while a refusal is handled. -/
namespace DL
open PySem PySem.Spec PyProof.Rows L2
variable {K : PySem.W.Frag}
theorem passesN {X : Cx} {W : WX} {E : XK} (tk : L2N.Takes X W) (h : ∀ c d σ H, E c d H → W c d σ H) : Passes (L2N.CX X.prog X.w) X E := L2N.passes_call tk h
theorem takesN0 {X : Cx} : L2N.Takes X (fun _ _ _ _ => False) := fun _ _ x => by
  obtain ⟨_, _, _, _, _, _, _, _, _, _, _, _, _, _, _, _, no⟩ := x
  exact no.elim
section
variable {P : Program} {w : World} {mg : Str → Option Value} {base : Heap}
theorem okN {x qual : Str} {st : Stmt} {f : Addr} {fd : FuncData} {N ps : List Str} {k : Nat} {sp : Sp} (T : Fun K x qual st f fd) (S : FnScope N ps (defScope st)) (many : ∀ vs H Q E, sp vs H Q E → vs.length = ps.length)
    (body : ∀ (cdv : Value) (A : Around) (outer : List Env) (z : Shared) (M : Hp) (vs : List V) (Q : VK) (E : XK), Room k (A.deeper (envOfC qual (defScope st) z.heap.objs.size f cdv)) → sp vs M Q E →
      ∃ t, PSs (cxOf (L2N.CX P w) P w K mg base N qual (defScope st) f cdv A outer z M E) (defBody st) t ∧ t { nx := fun _ M' => Q .non M', rt := Q } (start N vs) M) : FnOk P w K mg base (L2N.CX P w) (k + 1) f fd ps sp := by
  obtain ⟨x1, x2, x3, x4, x5, x6, cdv, x7, x8, rfl, there, code⟩ := T.ex
  exact fn_of there code S many fun A outer z M vs Q E room want => body cdv A outer z M vs Q E room want
theorem ds_runX {t : TS} {N : List Str} {R : List D → Option Addr → Prop} {vs : List V} {H : Hp} {Q : VK} {E : XK} (h : ∀ ds r, R ds r → DSE K E r t (startB N.length ds) { nx := fun _ => r = none, rt := fun d => d = .non ∧ r = none }) {n : Nat} (q : spX K n R vs H Q E) :
    t { nx := fun _ H' => Q .non H', rt := Q } (L2.start N vs) H := by
  obtain ⟨G, ds, r, _, e, tb, ra, hR, k1, k2⟩ := q
  refine h ds r hR ⟨G, H⟩ _ G H _ (env_start e tb ra) ⟨fun Γ σ G' H' z e' => k1 z G' H' e'.gr, fun _ _ _ _ z => z.elim, fun _ _ _ _ z => z.elim, fun d v G' H' z gr rr => ?_, fun _ _ _ _ _ z => z.elim⟩ fun C hC G' H' g => k2 C hC G' H' g
  have z1 : d = .non ∧ r = none := z
  rw [z1.1] at rr
  cases rr
  exact k1 z1.2 G' H' gr
theorem pure_okX {x qual : Str} {st : Stmt} {f : Addr} {fd : FuncData} {N ps : List Str} {k n : Nat} {R : List D → Option Addr → Prop} (F : Fun K x qual st f fd) (S : FnScope N ps (defScope st)) (hn : ps.length = n)
    (hb : ∀ (cdv : Value) (A : Around) (outer : List Env) (s : Shared) (H : Hp) (E : XK), Room k (A.deeper (envOfC qual (defScope st) s.heap.objs.size f cdv)) →
      ∃ t, PSs (cxOf (L2N.CX P w) P w K mg base N qual (defScope st) f cdv A outer s H E) (defBody st) t ∧ ∀ ds r, R ds r → DSE K E r t (startB N.length ds) { nx := fun _ => r = none, rt := fun d => d = .non ∧ r = none }) :
    FnOk P w K mg base (L2N.CX P w) (k + 1) f fd ps (spX K n R) :=
  okN F S (fun vs H Q E h => by
    obtain ⟨G, ds, d, h1, _, _, r, _⟩ := h
    rw [r.len, h1, hn]) fun cdv A outer s H vs Q E hr h => by
    obtain ⟨t, h1, h2⟩ := hb cdv A outer s H E hr
    exact ⟨t, h1, ds_runX h2 h⟩
end
/-! ## a comprehension over a range, while an exception is handled -/
section
variable {X : Cx} {pins : List (Addr × Obj)} {ρ ρ5 : L2.St} {M M5 : Hp} {z z5 : Shared} {q : Addr × Obj} {scope : Scope} {ce : Env} {fp : List Addr}
theorem pin_out (hq : q ∈ X.pn) (J : Inv X pins ρ M z) : q.1 ∉ frs X.stack := by
  obtain ⟨p1, p2, p3, p4, p5⟩ := J.pin q (List.mem_append_left _ hq)
  rcases J.ok.stk with k | ⟨k, k2⟩
  · rw [k]
    exact p4
  · rw [k]
    intro m
    have e : frs (X.env :: X.outer) = X.env.locals :: frs X.outer := by
      show List.filterMap _ _ = _
      rw [List.filterMap_cons, k2]
      rfl
    rw [e] at m
    rcases List.mem_cons.mp m with m | m
    · exact p3 m
    · exact p4 m
theorem blk_keeps (hq : q ∈ X.pn) (J : Inv X pins ρ M z) (hf : q.1 ∉ fp) (J5 : Inv (X.blk z M scope ce fp) [] ρ5 M5 z5) : z5.heap.get? q.1 = some q.2 ∧ M5 q.1 = none := by
  obtain ⟨p1, p2, p3, p4, p5⟩ := J.pin q (List.mem_append_left _ hq)
  exact ⟨J5.base.keep q.1 q.2 p1 p2 (pin_out hq J) hf, J5.base.free q.1 q.2 p1 p2 hf⟩
theorem blk_in (hq : q ∈ X.pn) (J : Inv X pins ρ M z) (hf : q.1 ∉ fp) (hl : z.heap.objs.size ≤ ce.locals) (J5 : Inv (X.blk z M scope ce fp) [] ρ5 M5 z5) : Inv ((X.blk z M scope ce fp).tr [q] fun _ _ => False) [] ρ5 M5 z5 :=
  ⟨J5.ok.toTry _ _, J5.os, J5.bare, J5.base, J5.loc, J5.cell, J5.free, J5.freeC, fun p hp => by
    have e : p = q := by simpa using hp
    subst e
    obtain ⟨p1, p2, p3, p4, p5⟩ := J.pin p (List.mem_append_left _ hq)
    obtain ⟨k1, k2⟩ := blk_keeps hq J hf J5
    exact ⟨k1, k2, Nat.ne_of_lt (Nat.lt_of_lt_of_le (Heap.lt_size p1) hl), pin_out hq J, p5⟩, J5.hok, J5.len⟩
theorem blk_out (ok : (X.blk z M scope ce fp).Ok) {ρ' : L2.St} {M' : Hp} {z' : Shared} (J : Inv ((X.blk z M scope ce fp).tr [q] fun _ _ => False) [] ρ' M' z') : Inv (X.blk z M scope ce fp) [] ρ' M' z' :=
  ⟨ok, J.os, J.bare, J.base, J.loc, J.cell, J.free, J.freeC, fun p hp => absurd (show p ∈ ([] : List (Addr × Obj)) ++ [] from hp) (by simp), J.hok, J.len⟩
theorem lc_hot {Q : VK} {elt tg iter : Expr} {ifs : List Expr} {own : List (Str × Nat)} {pos pos' : Pos} {wi : TI} {g : TG} {tt : TT} {te : TE} {Qf : Value → Shared → Prop} (hq : q ∈ X.pn) (h1 : L2H.Hot1 X.A q)
    (hN : X.N.Nodup) (J : Inv X pins ρ M z) (hi : L2H.PIH X tg iter wi) (ok : BlkOk X.N X.env.scope scope own)
    (hg : ∀ (z : Shared) (M : Hp) (C : Addr) (cl : List (Str × Addr)) (fp : List Addr), PG (X.blk z M scope (compEnvC scope cl C X.env) fp) tg g)
    (ht : ∀ (z : Shared) (M : Hp) (C : Addr) (cl : List (Str × Addr)) (fp : List Addr), PTs (X.blk z M scope (compEnvC scope cl C X.env) fp) ifs tt)
    (he : ∀ (z : Shared) (M : Hp) (C : Addr) (cl : List (Str × Addr)) (fp : List Addr), PE (X.blk z M scope (compEnvC scope cl C X.env) fp) elt te)
    (hs : ∀ x, foldedSetIterable iter X.env x = pure x) (want : tLc wi g tt te (own.map (·.2)) ρ M Q)
    (fin : ∀ L0 C z' m M', Inv X pins ρ M' z' → Q (.ref L0) M' → z'.heap.Ns C m → FpOk X pins M' C → compPost (model X.prog X.w) X.A X.xe none Qf (.ref L0) C (.ok .next) z') :
    wpAny (model X.prog X.w) X.A (comprehension (.ListComp elt [⟨tg, iter, ifs, 0⟩] scope pos) scope X.env pos' (newList []) false (eval iter X.env) none) Qf X.xe z := by
  have hfree : ∀ y ∈ scope.names, y.2 = .free → ∃ c, X.env.cells.lookup y.1 = some c := fun y hy e => by
    rcases ok.free y hy e with k | k
    · exact J.ok.has _ (.inl k)
    · exact J.ok.has _ (.inr k)
  refine wpAny_comprehension_free (use := none) rfl hs (closure_ok hfree) ok.kind (fun y hy e => by rw [ok.uniq y hy, e]) (thn (hi.run pins z ρ M _ J want) fun xv z1 hx => thn hx fun itv z2 h2 => ?_)
  obtain ⟨it, fp, tn, K1, M2, e, J2, T, st2, f2, turns⟩ := h2
  subst e
  refine wpAny_newObj_type (newEnv_comp ?_) (by exact (show 0 ≤ sizeLine by decide))
  generalize hL : z2.heap.objs.size = L0
  have none2 : M2 L0 = none := J2.hok.fresh (Nat.le_of_eq hL)
  obtain ⟨W, ⟨m0, w0⟩, turn⟩ := turns L0 none2
  generalize hz3 : ({ z2 with heap := z2.heap.push { cls := .type "list", data := .seq ([] : List Value).toArray } } : Shared) = z3
  have J3 : Inv X pins ρ (upd M2 L0 (.lst [])) z3 := by
    rw [← hz3]
    refine J2.laid (t' := z2.toks) (fun b o e => Heap.get?_push_of_some _ e) (Nat.le_of_eq hL) ⟨Nat.zero_le _, [], 0, .nil, ?_⟩
    rw [← hL]
    exact Heap.get?_push_size _ rfl
  have heap3 : z3.heap = z2.heap.push { cls := .type "list", data := .seq ([] : List Value).toArray } := by rw [← hz3]
  have size2 : ∀ b ∈ fp, b < z2.heap.objs.size := fun b hb => by
    obtain ⟨o, e, _⟩ := T.obj _ _ st2 b hb
    exact Heap.lt_size e
  have f3 : ∀ b ∈ fp, FpOk X pins (upd M2 L0 (.lst [])) b ∧ b < z3.heap.objs.size := fun b hb => by
    have lt := size2 b hb
    refine ⟨⟨?_, (f2 b hb).2⟩, by rw [heap3, Heap.size_push]; exact Nat.lt_succ_of_lt lt⟩
    rw [upd_ne (by rw [← hL]; exact Nat.ne_of_lt lt)]
    exact (f2 b hb).1
  have st3 : tn 0 z3.heap := T.keep _ _ _ st2 fun b _ o e => by rw [heap3]; exact Heap.get?_push_of_some _ e
  have qf : q.1 ∉ fp := fun m => (f3 q.1 m).1.2.2.2.2.2 q (List.mem_append_left _ hq) rfl
  have J4 := block_start J3 ok hN f3
  have pg := hg z3 (upd M2 L0 (.lst [])) z3.heap.objs.size (cellsFrom (z3.heap.objs.size + 1) scope.names (cloFrom X.env.cells scope.names [])) fp
  have pt := ht z3 (upd M2 L0 (.lst [])) z3.heap.objs.size (cellsFrom (z3.heap.objs.size + 1) scope.names (cloFrom X.env.cells scope.names [])) fp
  have pe := he z3 (upd M2 L0 (.lst [])) z3.heap.objs.size (cellsFrom (z3.heap.objs.size + 1) scope.names (cloFrom X.env.cells scope.names [])) fp
  show codeAny _ _ (.compStart (.ListComp elt [⟨tg, iter, ifs, 0⟩] scope pos) 0 (.ref it) (.ref L0) (compEnvC scope (cellsFrom (z3.heap.objs.size + 1) scope.names (cloFrom X.env.cells scope.names [])) z3.heap.objs.size X.env)) (compPost (model X.prog X.w) X.A X.xe none Qf (.ref L0) z3.heap.objs.size) { z3 with heap := pushCells (z3.heap.push { cls := .type "dict", data := .dict #[] }) scope.names }
  have free3 : ∀ b ∈ fp, (upd M2 L0 (.lst [])) b = none := fun b hb => (f3 b hb).1.1
  generalize hce : compEnvC scope (cellsFrom (z3.heap.objs.size + 1) scope.names (cloFrom X.env.cells scope.names [])) z3.heap.objs.size X.env = ce at J4 pg pt pe ⊢
  have locs : ce.locals = z3.heap.objs.size := by subst hce; rfl
  generalize hM3 : upd M2 L0 (.lst []) = M3 at J3 J4 pg pt pe w0 free3 f3
  generalize hz4 : ({ z3 with heap := pushCells (z3.heap.push { cls := .type "dict", data := .dict #[] }) scope.names } : Shared) = z4 at J4 ⊢
  have st4 : tn 0 z4.heap := T.keep _ _ _ st3 fun b _ o e => by rw [← hz4]; exact pushCells_keeps _ _ _ _ (Heap.get?_push_of_some _ e)
  have stat : ∀ {ρ' : L2.St} {M' : Hp} {z' : Shared}, Inv (X.blk z3 M3 scope ce fp) [] ρ' M' z' → (∀ b ∈ fp, M' b = none) → ∀ b ∈ fp, FpOk (X.blk z3 M3 scope ce fp) [] M' b := fun {ρ' M' z'} J' no b hb =>
    ⟨no b hb, (J'.ok.exf b hb).1, J'.ok.exfs b hb, .inl hb, fun x c e => (J'.ok.exf b hb).2 x c e, fun p hp => absurd (show p ∈ ([] : List (Addr × Obj)) ++ [] from hp) (by simp)⟩
  have stat2 : ∀ {M' : Hp} {b : Addr}, b ∈ fp → FpOk (X.blk z3 M3 scope ce fp) [] M' b → FpOk ((X.blk z3 M3 scope ce fp).tr [q] fun _ _ => False) [] M' b := fun {M' b} hb k =>
    ⟨k.1, k.2.1, k.2.2.1, k.2.2.2.1, k.2.2.2.2.1, fun p hp => by
      have e : p = q := by simpa using hp
      rw [e]
      exact fun e2 => qf (by rw [e2]; exact hb)⟩
  have hot : L2H.HotC ((X.blk z3 M3 scope ce fp).tr [q] fun _ _ => False) := ⟨q, h1, List.mem_singleton.mpr rfl⟩
  have inn : ∀ {ρ' : L2.St} {M' : Hp} {z' : Shared}, Inv (X.blk z3 M3 scope ce fp) [] ρ' M' z' → Inv ((X.blk z3 M3 scope ce fp).tr [q] fun _ _ => False) [] ρ' M' z' := fun J' => blk_in hq J3 qf (Nat.le_of_eq locs.symm) J'
  have loop : codeAny (model X.prog X.w) X.A (.compLoop (.ListComp elt [⟨tg, iter, ifs, 0⟩] scope pos) 0 (.ref it) (.ref L0) ce) (compPost (model X.prog X.w) X.A X.xe none Qf (.ref L0) z3.heap.objs.size) z4 := by
    refine compLoop_any (fun n z' => ∃ i M', Inv (X.blk z3 M3 scope ce fp) [] (wipe ρ (own.map (·.2))) M' z' ∧ tn i z'.heap ∧ (∀ b ∈ fp, M' b = none) ∧ W i n M') ?_ m0 ⟨0, M3, J4, st4, free3, w0⟩
    rintro n z5 ⟨i, M5, J5, st5, free5, w5⟩
    rcases turn i n M5 w5 with ⟨stop, qq⟩ | ⟨go, Nx, more, step⟩
    · have td := T.done ((X.blk z3 M3 scope ce fp).tr [q] fun _ _ => False) rfl rfl rfl hot i [] z5 _ M5 (fun _ _ => False) (inn J5) (fun b hb => stat2 hb (stat J5 free5 b hb)) st5 stop
      refine thnF td fun r z6 ⟨hr, J6'⟩ => ?_
      subst hr
      have J6 := blk_out J5.ok J6'
      have J7 : Inv X pins ρ M5 z6 := J3.call' (ch := fp) J6.os J6.base J6.hok J6.bare fun b hb => ⟨(f3 b hb).1.2.2.2.1, (f3 b hb).1.2.1, (f3 b hb).1.2.2.2.2.1, (f3 b hb).1.2.2.2.2.2⟩
      have noC : M5 z3.heap.objs.size = none := by
        have y : M5 ce.locals = none := J6.free
        rwa [locs] at y
      obtain ⟨m, ns, _⟩ := J6.loc
      have ns : z6.heap.Ns ce.locals m := ns
      rw [locs] at ns
      exact fin L0 z3.heap.objs.size z6 m M5 J7 qq ns (J3.fpOk (Nat.le_refl _) noC)
    · have ti := T.item ((X.blk z3 M3 scope ce fp).tr [q] fun _ _ => False) rfl rfl rfl hot i [] z5 _ M5 (fun _ _ => False) (inn J5) (fun b hb => stat2 hb (stat J5 free5 b hb)) st5 go
      refine thnF ti fun r z6 ⟨u, hr, h6⟩ => ?_
      subst hr
      refine thnF h6 fun _ z7 ⟨x, M7, J7', r7, y7, st7, free7⟩ => ?_
      have J7 := blk_out J5.ok J7'
      have J7p := J7.pinned (stat J7 free7) (T.obj _ _ st7)
      refine thnF (pg.run _ z7 _ M7 x u _ J7p r7 (step x M7 y7)) fun _ z8 ⟨ρ8, M8, J8, same8, q8⟩ => ?_
      refine thnF (pt.run _ z8 ρ8 M8 _ J8 q8) fun b z9 ⟨M9, J9, q9⟩ => ?_
      have again : ∀ {z' : Shared} {M' : Hp}, Inv (X.blk z3 M3 scope ce fp) ([] ++ pinsAt fp z7.heap) ρ8 M' z' → Nx M' → ∃ m, m < n ∧ ∃ i M', Inv (X.blk z3 M3 scope ce fp) [] (wipe ρ (own.map (·.2))) M' z' ∧ tn i z'.heap ∧ (∀ b ∈ fp, M' b = none) ∧ W i m M' := fun {z' M'} J' nx => by
        obtain ⟨m', less, w'⟩ := more M' nx
        have pins' : ∀ b ∈ fp, ∀ o, z7.heap.get? b = some o → z'.heap.get? b = some o ∧ M' b = none := fun b hb o e =>
          let y := J'.pin (b, o) (List.mem_append_right _ (List.mem_append_right _ (mem_pinsAt hb e)))
          ⟨y.1, y.2.1⟩
        have len8 : (wipe ρ (own.map (·.2))).length = ρ8.length := by rw [← same8, wipe_length]
        refine ⟨m', less, i + 1, M', (J'.unpinned (pins := [])).weak len8 (fun j v e => ?_), T.keep _ _ _ st7 fun b hb o e => (pins' b hb o e).1, fun b hb => ?_, w'⟩
        · rw [← same8] at e
          exact (wipe_some e).1
        · obtain ⟨o, e, _⟩ := T.obj _ _ st7 b hb
          exact (pins' b hb o e).2
      cases b with
      | false =>
        simp only [Bool.false_eq_true, if_false] at q9 ⊢
        exact again J9 q9
      | true =>
        simp only [if_true] at q9 ⊢
        refine thnF (pe.run _ z9 ρ8 M9 _ J9 q9) fun y z10 ⟨yv, M10, J10, r10, acc, at10, few10, nx⟩ => ?_
        exact app_ok (X := X.blk z3 M3 scope ce fp) J10 at10 few10 r10 fun z11 J11 => again J11 nx
  exact codeAny_compStart_list loop (T.self X.A 0 _ _ _ st4 loop)
theorem pe_lcHot {elt tg iter : Expr} {ifs : List Expr} {own : List (Str × Nat)} {pos : Pos} {wi : TI} {g : TG} {tt : TT} {te : TE} (hq : q ∈ X.pn) (h1 : L2H.Hot1 X.A q) (hN : X.N.Nodup) (hi : L2H.PIH X tg iter wi) (ok : BlkOk X.N X.env.scope scope own)
    (hg : ∀ (z : Shared) (M : Hp) (C : Addr) (cl : List (Str × Addr)) (fp : List Addr), PG (X.blk z M scope (compEnvC scope cl C X.env) fp) tg g)
    (ht : ∀ (z : Shared) (M : Hp) (C : Addr) (cl : List (Str × Addr)) (fp : List Addr), PTs (X.blk z M scope (compEnvC scope cl C X.env) fp) ifs tt)
    (he : ∀ (z : Shared) (M : Hp) (C : Addr) (cl : List (Str × Addr)) (fp : List Addr), PE (X.blk z M scope (compEnvC scope cl C X.env) fp) elt te) (hs : ∀ x, foldedSetIterable iter X.env x = pure x := by intro _; rfl) :
    PE X (.ListComp elt [⟨tg, iter, ifs, 0⟩] scope pos) (tLc wi g tt te (own.map (·.2))) := by
  refine ⟨fun pins z ρ M Q J want => ?_⟩
  rw [eval_ListComp]
  refine lc_hot hq h1 hN J hi ok hg ht he hs want fun L0 C z' m M' J' qq ns f => ⟨m, ns, fun h'' sb => ?_⟩
  obtain ⟨g0, g1, g2, g3, g4, g5⟩ := f
  exact ⟨.ref L0, M', J'.turned (t' := z'.toks) (fun b o hb e => (sb.2 b hb).trans e) g0 g1 g3 g4 g5, rfl, qq⟩
end
end DL

/-! DW: classes of refusals; a refusal raised; a refusal caught, asked what it is. -/
namespace DL
open PySem PySem.Spec PyProof.Rows L2
variable {K : PySem.W.Frag}
/-- a class of refusals, of the program's own, below ValueError -/
structure ErrC (K : PySem.W.Frag) (C : Addr) : Prop where
  x : PySem.W.excIn K C [.type "ValueError", .type "Exception", .type "BaseException", .type "object"] "ValueError.__new__" = true
  k : PySem.W.keepIn K (.ref C) = true
  t : PySem.W.typeIn K (.ref C) = some (.type "type")
  c : ExcC K C
/-- the four -/
structure Err4 where
  bn : Addr
  bw : Addr
  br : Addr
  bm : Addr
section
variable {X : Cx} {W : WX} {x m : Str} {j : Nat} {p p2 p3 pos : Pos} {C : Addr}
theorem ps_raiseE (hc : X.calm = true) (tk : L2N.Takes X W) (g : X.mg x = some (.ref C)) (e : ErrC X.K C) (hg : Gl X x) (hd : (x == ("__debug__" : Str)) = false := by decide) : PS X (.Raise (some (.Call (.Name x p) [.Constant (.str m) j p2] [] p3)) none pos) (fun _ σ H => W (.ref C) none σ H) :=
  L2N.ps_raise hc tk (L2N.pmk_own PySem.F.excBase_ValueError e.x g e.k (raises_own e.c.hs e.t) hg hd)
end
/-! ## asking the refusal that is held -/
def rIsEX (K : PySem.W.Frag) (u : Value) (dx : Option Addr) (a : Addr) : List V → Hp → VK → Prop := fun xs H Q => ∃ D, u = .ref D ∧ dx = none ∧ ExcC K D ∧ rIsE K D a xs H Q
theorem call_isEX {X : Cx} {a : Addr} {u : Value} {dx : Option Addr} {oe : Obj} {pn : List (Addr × Obj)} (hz : L2N.Zn u dx oe) (hf : ∃ vs, oe.data = .fields vs) : CallR (X.suite a ((a, oe) :: pn)) (.builtin "isinstance") (rIsEX X.K u dx a) := by
  intro pins s σ H xs us Q I r h
  obtain ⟨D, rfl, rfl, c, q⟩ := h
  exact call_isE c hz.zc hf pins s σ H xs us Q I r q
theorem hot1 {X : Cx} {a : Addr} {u : Value} {dx : Option Addr} {oe : Obj} {pn : List (Addr × Obj)} (hz : L2N.Zn u dx oe) (hf : ∃ vs, oe.data = .fields vs) : L2H.Hot1 (X.suite a ((a, oe) :: pn)).A (a, oe) := by
  obtain ⟨vs, h⟩ := hf
  exact ⟨rfl, vs, h, hz.2.2 vs h⟩
section
variable {a D S : Addr} {b : Bool} {n : String}
theorem rc_isEC (c : ExcC K D) (h : PySem.W.kitOne K (.ref D) (.ref S) = some b) : RCD K (rIsEX K (.ref D) none a) [.op (.ref a), .cls S] (.bl b) := fun vs G H e r Q q => by
  cases r with
  | cons r1 r2 =>
    cases r2 with
    | cons r2 r3 =>
      cases r3
      cases r1
      cases r2
      exact ⟨D, rfl, rfl, c, .ref S, .ref S, b, rfl, fun u r => (by cases r; rfl), h, q _ G H (Grow.refl e) (.bl b)⟩
theorem rc_isET (c : ExcC K D) (h : PySem.W.kitOne K (.ref D) (.type n) = some b) : RCD K (rIsEX K (.ref D) none a) [.op (.ref a), .ty n] (.bl b) := fun vs G H e r Q q => by
  cases r with
  | cons r1 r2 =>
    cases r2 with
    | cons r2 r3 =>
      cases r3
      cases r1
      cases r2
      exact ⟨D, rfl, rfl, c, .ty n, .type n, b, rfl, fun u r => (by cases r; rfl), h, q _ G H (Grow.refl e) (.bl b)⟩
end
/-- try: a call that refuses, except c as x: a suite that hands back -/
theorem ds_try {R : List D → Option Addr → Prop} {tx : TA} {Γ : List B} {P : Post} {c : Value} {i n : Nat} {ts : Addr → Value → Option Addr → TS} {Wout : WX} {ds : List D} {C : Addr} (h : DAr K tx Γ ds) (hR : R ds (some C)) (hn : ds.length = n) (hx : PySem.W.exmOne K (.ref C) c = some true)
    (hs : ∀ a, DS K (ts a (.ref C) none) (Γ.set i (.im (.op (.ref a)))) { nx := fun _ => False, rt := P.rt }) :
    DS K (fun Dn σ H => tDrop (tCallS (spX K n R) (WE (wAs K c i ts Wout Dn)) tx) Dn σ H) Γ P := fun bs σ G H Dn e f =>
  h σ G H e.gr.i e.sl _ fun vs G1 H1 g1 r1 => ⟨G1, ds, some C, hn, g1.i, e.sl.tb.mono g1.g, r1, hR, fun z => (by cases z), fun C' z G' H' g => by
    cases z
    refine ⟨true, hx, fun _ a _ => ?_, fun z => by cases z⟩
    refine hs a bs _ G' H' _ ((e.grow (g1.trans g)).set i (.op (.ref a))) ⟨fun _ _ _ _ z => z.elim, fun _ _ _ _ z => z.elim, fun _ _ _ _ z => z.elim, fun d v G2 H2 k gr r => f.rt d v G2 H2 k gr r, fun _ _ _ _ _ z => z.elim⟩⟩
end DL

/-! DK: sorted by a lambda that looks into a captured list. -/
namespace DL
open PySem PySem.Spec PyProof.Rows L2
variable {K : PySem.W.Frag}
/-- the call of lambda x: y[x] -/
theorem lam_item {prog : Program} {w : World} {A : Around} {s : Shared} {f c' cN b : Addr} {q : Str} {params : Arguments} {scope : Scope} {clos : List (Str × Addr)} {pm ctv : Value} {x y : Str} {p1 p2 p3 : Pos} {its : Array Value} {i z : Int} {t u : Tok}
    (of : s.heap.get? f = some (PySem.W.kla_obj "<lambda>" q params (.Subscript (.Name y p1) (.Name x p2) p3) scope clos pm c' ctv))
    (hcd : s.heap.CodeRec (.ref c') q) (hlim : s.heap.NoLimit) (hdp : A.depth < recursionLimit)
    (hk : scope.kind = .function) (hco : scope.isCoroutine = false) (hgen : scope.isGenerator = false) (hnc : ∀ n ∈ scope.names, n.2 ≠ .cell) (hx : scope.names.lookup x = some .local) (hy : scope.names.lookup y = some .free)
    (hb : bindArgs (PySem.W.kla_fn "<lambda>" q params (.Subscript (.Name y p1) (.Name x p2) p3) scope clos pm (.ref c') ctv) ⟨[.int i t], []⟩ = pure [(x, .int i t)])
    (hcl : clos.lookup y = some cN) (hcell : s.heap.IsCell cN (some (.ref b))) (hl : s.heap.IsList b its) (h0 : 0 ≤ i) (hfit : i < 2 ^ 63) (he : its[i.toNat]? = some (.int z u))
    (hdx : (x == ("__debug__" : Str)) = false) (hdy : (y == ("__debug__" : Str)) = false) (hcy : (y == ("__classdict__" : Str)) = false) :
    wpAny (model prog w) A (call (.ref f) [.int i t]) (PySem.W.KeyPure (.int z) s) (fun _ _ => False) s := by
  refine wpAny_call ?_
  refine PySem.W.kla_callFunE hdp of rfl hco hgen rfl hcd ?_
  rw [hb]
  refine wpAny_pure (wpAny_newFunctionEnv hnc (fun n hn => by rw [List.mem_singleton.mp hn]; exact hx) (fun h₁ hns hsb => ⟨hlim.fresh _ hsb, ?_⟩) hk)
  show codeAny _ _ (.expr _ (PySem.W.envX q scope s.heap.objs.size f (.ref c') clos)) _ _
  have keep : ∀ b o, s.heap.get? b = some o → h₁.get? b = some o := fun b o e => hsb.extBut b o (Nat.ne_of_lt (Heap.lt_size e)) (Heap.get?_push_of_some _ e)
  refine PySem.W.kla_codeExpr ?_
  obtain ⟨oc, ho1, ho2⟩ := hcell
  have hl1 : h₁.IsList b its := by
    obtain ⟨ol, e1, e2⟩ := hl
    exact ⟨ol, keep _ _ e1, e2⟩
  refine wpAny_Subscript_Name (T := "list") slot_list_getitem.lookup (wpAny_Name (wpAny_loadName_free (c := cN) hk hy hcl ⟨oc, keep _ _ ho1, ho2⟩ ?_ hcy) hdy) (fun _ _ => rfl)
  have hlk : List.lookup x [(x, Value.int i t)].reverse = some (Value.int i t) := (lookup_cons x x (Value.int i t) []).trans (if_pos rfl)
  refine wpAny_Name (wpAny_loadName_local hk hx hns hlk ?_) hdx
  exact ⟨hl1.typeIs, wpAny_getItem_list hl1 h0 hfit he ⟨h₁, _, rfl, keep, .int z u⟩⟩
/-- the table takes in a code object of that name: what of the heap is kept -/
theorem same_tab {H : Hp} {P c' : Addr} {ps more : Array Value} (hP : H P = some (.tbl ps)) (nC : H c' = none) (hm : LamX.TabS H P qMed → LamX.TabS (upd (upd H P (.tbl (ps ++ more))) c' (LamX.CodeO c' qMed)) P qMed) :
    Same H (upd (upd H P (.tbl (ps ++ more))) c' (LamX.CodeO c' qMed)) := fun b o e => by
  have nb : b ≠ c' := ne_of_none e nC
  by_cases hb : b = P
  · rw [hb, hP] at e
    cases e
    rw [hb]
    exact ⟨⟨_, by rw [upd_ne (ne_of_none hP nC), upd_same]⟩, hm⟩
  · have e' : upd (upd H P (.tbl (ps ++ more))) c' (LamX.CodeO c' qMed) b = some o := by
      rw [upd_ne nb, upd_ne hb]
      exact e
    cases o with
    | tbl qs =>
      refine ⟨⟨_, e'⟩, fun t => ?_⟩
      obtain ⟨qs', h1, h2, h3⟩ := t
      rw [e] at h1
      cases h1
      refine ⟨qs, e', h2, fun pos cv hc => ?_⟩
      obtain ⟨c, e1, e2⟩ := h3 pos cv hc
      refine ⟨c, e1, ?_⟩
      rw [upd_ne (ne_of_none e2 nC), upd_ne fun z => by
        rw [z, hP] at e2
        exact LamX.codeO_ne _ (Option.some.inj e2).symm]
      exact e2
    | _ => exact e'
section
variable {X : Cx} {pins : List (Addr × Obj)} {σ : L2.St} {H : Hp} {s : Shared}
/-- the lambda is made, its name qMed -/
theorem lam_make3 {c P : Addr} {params : Arguments} {body : Expr} {scope : Scope} {pos : Pos} {E : Value → Shared → Prop} {Q : Value → Shared → Prop} (I : Inv X pins σ H s) (TB : LamX.TabB X.base X.mg c P) (hcode : X.env.code = .ref c) (hqn : X.env.qual ++ "<lambda>" = qMed)
    (hT : LamX.TabS H P qMed) (hdef : defaultsOf params X.env = ([], [])) (hfree : ∀ y ∈ scope.names, y.2 = .free → ∃ c, X.env.cells.lookup y.1 = some c)
    (h : ∀ (f c' : Addr) (pm ctv : Value) (H1 : Hp) (s' : Shared), Inv X pins σ H1 s' → Same H H1 → LamX.TabS H1 P qMed →
      s'.heap.get? f = some (PySem.W.kla_obj "<lambda>" qMed params body scope (cloFrom X.env.cells scope.names []) pm c' ctv) → s'.heap.CodeRec (.ref c') qMed → Q (.ref f) s') :
    wpAny (model X.prog X.w) X.A (eval (.Lambda params body scope pos) X.env) Q E s := by
  obtain ⟨ps, hP, ht, ha⟩ := id hT
  refine PySem.W.kla_eval hdef ?_
  have bP : s.heap.BuiltinsAt X.mg P := TB.bm.keeps I.bk
  have hP' : s.heap.get? P = some { cls := .none, data := .fields ps } := I.hok P _ hP
  have crec : ∀ (H1 : Hp) (s1 : Shared) (c' : Addr), Inv X pins σ H1 s1 → H1 c' = some (LamX.CodeO c' qMed) → s1.heap.CodeRec (.ref c') qMed := fun H1 s1 c' I1 e => by
    obtain ⟨⟨oc, vs, t, e1, e2, e3⟩, _, _⟩ := I1.hok c' _ e
    exact ⟨c', oc, vs, t, rfl, e1, e2, e3⟩
  cases hc : codeAmong pos ps.toList with
  | none =>
    refine PySem.W.kla_makeFunction (mg := X.mg) (c := c) (P := P) (ps := ps) (closure_ok hfree) I.ok.glob (I.mod.glob.keeps I.bk) hcode (TB.code.keeps I.bk) hP' ht hc TB.gP bP fun c' ctv h' tk hx hge hlt hrec htb => ?_
    rw [hqn] at hrec
    obtain ⟨c2, oc, vs, t, e2, hoc, hd, hv⟩ := id hrec
    cases e2
    have nC : H c' = none := I.hok.fresh hge
    have J := LamX.inv_table (t' := tk) (more := #[rawInt pos.line, rawInt pos.col, .ref c']) (q := qMed) (h' := h'.push (PySem.W.kla_obj "<lambda>" (X.env.qual ++ "<lambda>") params body scope (cloFrom X.env.cells scope.names []) ((X.mg "__name__").getD .none) c' ctv)) I hP
      (fun b o hb e => Heap.get?_push_of_some _ (hx b o hb e)) (Heap.get?_push_of_some _ htb) hge ⟨oc, vs, t, Heap.get?_push_of_some _ hoc, hd, hv⟩
    have eL : (ps ++ #[rawInt pos.line, rawInt pos.col, .ref c']).toList = ps.toList ++ [rawInt pos.line, rawInt pos.col, .ref c'] := by simp
    have T1 : LamX.TabS (upd (upd H P (.tbl (ps ++ #[rawInt pos.line, rawInt pos.col, .ref c']))) c' (LamX.CodeO c' qMed)) P qMed := by
      refine ⟨_, by rw [upd_ne (ne_of_none hP nC), upd_same], by rw [eL]; exact PySem.TriplesOk_snoc _ _ _ _ ht, fun p' cv hcv => ?_⟩
      rw [eL] at hcv
      rcases LamX.among_app _ ht hcv with z | z
      · obtain ⟨c0, e1, e2⟩ := ha p' cv z
        refine ⟨c0, e1, ?_⟩
        rw [upd_ne (ne_of_none e2 nC), upd_ne fun z => by
          rw [z, hP] at e2
          exact LamX.codeO_ne _ (Option.some.inj e2).symm]
        exact e2
      · exact ⟨c', z, upd_same⟩
    rw [hqn] at J
    have fin := h h'.objs.size c' ((X.mg "__name__").getD .none) ctv _ _ J (same_tab hP nC fun _ => T1) T1 (Heap.get?_push_size _ rfl) (crec _ _ _ J upd_same)
    rw [hqn]
    exact fin
  | some cv =>
    obtain ⟨c', e, hco⟩ := ha pos cv hc
    subst e
    refine PySem.W.kla_makeFunctionHit (mg := X.mg) (c := c) (P := P) (ps := ps) (closure_ok hfree) I.ok.glob (I.mod.glob.keeps I.bk) hcode (TB.code.keeps I.bk) hP' ht hc bP fun ctv h' tk hx hsz => ?_
    have J : Inv X pins σ H { s with heap := h'.push (PySem.W.kla_obj "<lambda>" (X.env.qual ++ "<lambda>") params body scope (cloFrom X.env.cells scope.names []) ((X.mg "__name__").getD .none) c' ctv), toks := tk } := I.kept fun b o e => Heap.get?_push_of_some _ (hx b o e)
    rw [hqn] at J
    have fin := h h'.objs.size c' ((X.mg "__name__").getD .none) ctv H _ J (Same.refl H) hT (Heap.get?_push_size _ rfl) (crec _ _ _ J hco)
    rw [hqn]
    exact fin
end
theorem each_ints : ∀ {ps : List Int} {its : List Value}, Vals (ps.map V.int) its → PySem.W.EachIs (fun (v : Value) (p : Int) => ∃ t, v = .int p t) its ps
  | [], its, h => by
    cases h
    exact .nil
  | p :: r, its, h => by
    cases h with
    | cons a b => exact .cons a (each_ints b)
theorem each_vals : ∀ {ps : List Int} {its : List Value}, PySem.W.EachIs (fun (v : Value) (p : Int) => ∃ t, v = .int p t) its ps → Vals (ps.map V.int) its
  | _, _, .nil => .nil
  | _, _, .cons a b => .cons a (each_vals b)
/-- the places by what stands there, equal ones in their turn -/
def byKey (ns ps : List Int) : List Int := ps.mergeSort fun x y => decide (ns.getD x.toNat 0 ≤ ns.getD y.toNat 0)
def tSortK (K : PySem.W.Frag) (i : Nat) (ta : TA) : TE := fun σ H Q => ta σ H fun vs H1 => ∃ (a b : Addr) (ps ns : List Int), vs = [.ref a] ∧ LsX K H1 a (ps.map V.int) ∧ σ[i]? = some (some (.ref b)) ∧ LsX K H1 b (ns.map V.int) ∧ (∀ p ∈ ps, 0 ≤ p ∧ p < ns.length) ∧ ns.length ≤ 1000 ∧ TabsK K H1 ∧
  ∀ H2 l, Same H1 H2 → H2 l = none → Q (.ref l) (upd H2 l (.lst ((byKey ns ps).map V.int)))
/-- what the lambda x: y[x] asks of its names -/
def lamLB (sc scope : Scope) (x y : Str) : Bool :=
  decide (scope.kind = .function) && !scope.isCoroutine && !scope.isGenerator && (scope.names.all fun n => !decide (n.2 = .cell)) && decide (scope.names.lookup x = some .local) && decide (scope.names.lookup y = some .free) && decide (sc.names.lookup y = some .cell) &&
    (scope.names.all fun n => !decide (n.2 = .free) || decide (sc.names.lookup n.1 = some .cell)) && !(x == ("__debug__" : Str)) && !(y == ("__debug__" : Str)) && !(y == ("__classdict__" : Str))
section
variable {X : Cx}
theorem pe_sortLam {i : Nat} {e : Expr} {ta : TA} {c P : Addr} {params : Arguments} {scope : Scope} {x y : Str} {p1 p2 p3 p kpos lpos pos : Pos} (hg : Gl X "sorted") (hm : X.mg "sorted" = none) (ha : PA X [e] ta) (hN : X.N[i]? = some y)
    (ht : PySem.W.tabIn X.K "median" = some (c, P)) (TB : LamX.TabB X.base X.mg c P) (hcode : X.env.code = .ref c) (hqn : X.env.qual ++ "<lambda>" = qMed) (hr : Room 1 X.A) (hL : lamLB X.env.scope scope x y = true) (hdef : defaultsOf params X.env = ([], []))
    (hbind : ∀ (q : Str) (cl : List (Str × Addr)) (pm cv ctv v : Value), bindArgs (PySem.W.kla_fn "<lambda>" q params (.Subscript (.Name y p1) (.Name x p2) p3) scope cl pm cv ctv) ⟨[v], []⟩ = pure [(x, v)])
    (he : backTo pos (starEach [e] X.env) = (false, eval e X.env) :: backTo pos (starEach [] X.env) := by rfl) (hpl : (backTo pos (starEach [e] X.env)).any (·.1) = false := by rfl) :
    PE X (.Call (.Name "sorted" p) [e] [⟨some "key", .Lambda params (.Subscript (.Name y p1) (.Name x p2) p3) scope lpos, kpos⟩] pos) (tSortK X.K i ta) := by
  unfold lamLB at hL
  simp only [Bool.and_eq_true, Bool.or_eq_true, Bool.not_eq_true', decide_eq_true_eq, decide_eq_false_iff_not, List.all_eq_true] at hL
  obtain ⟨⟨⟨⟨⟨⟨⟨⟨⟨⟨l1, l2⟩, l3⟩, l4⟩, l5⟩, l6⟩, l7⟩, l8⟩, l9⟩, l10⟩, l11⟩ := hL
  have hfree : ∀ (ok : X.Ok), ∀ n ∈ scope.names, n.2 = .free → ∃ c, X.env.cells.lookup n.1 = some c := fun ok n hn hf => ok.has _ (.inl ((l8 n hn).resolve_left fun z => z hf))
  refine ⟨fun pins s σ H Q I h => ?_⟩
  refine wpAny_Call_Name_kw (ld_blt (u := .builtin "sorted") I hg hm (by decide +kernel) ?_)
  refine PyProof.Rows.callWith_kw (thn (ha.run pos pins s σ H _ I h) fun us s1 ⟨vs, H1, I1, r1, a, b, ps, ns, e1, ha1, hb1, hb2, hps, hlen, tb, q⟩ => ?_) he hpl (by rfl) (by rfl)
  subst e1
  rw [Vals.ref1 r1]
  have hfr := hfree I1.ok
  show wpAny _ _ (evalAll ((do let v ← eval (.Lambda params (.Subscript (.Name y p1) (.Name x p2) p3) scope lpos) X.env; standAt pos; pure v) :: [])) _ _ s1
  refine wpAny_evalAll_cons (wpAny_bind (lam_make3 I1 TB hcode hqn (tb c P ht) hdef hfr fun f c' pm ctv H2 s2 I2 s12 T2 hf hcr => wpAny_bind (wpAny_standAt (wpAny_pure (wpAny_evalAll_nil ?_)))))
  obtain ⟨itsA, rA, lA, zA⟩ := I2.list (ls_same s12 ha1).sq
  obtain ⟨itsB, rB, lB, zB⟩ := I2.list (ls_same s12 hb2).sq
  obtain ⟨m, hn, hloc⟩ := I2.loc
  obtain ⟨u, ru, hu⟩ := hloc i y (.ref b) hN hb1 (.inr (.inl l7))
  have eu : u = Value.ref b := ru
  subst eu
  obtain ⟨cN, hcN, hcell⟩ : ∃ cN, X.env.cells.lookup y = some cN ∧ s2.heap.IsCell cN (some (.ref b)) := by
    rcases hu with ⟨k', _⟩ | ⟨_, c3, e', z⟩
    · have k2 : X.env.scope.names.lookup y = some .local := k'
      rw [l7] at k2
      cases k2
    · exact ⟨c3, e', z⟩
  have hcl : (cloFrom X.env.cells scope.names []).lookup y = some cN := by
    have hy : (y, NameKind.free) ∈ scope.names := PySem.mem_of_lookup l6
    obtain ⟨c4, h4⟩ := mem_lookup (cloFrom_has (cells := X.env.cells) (acc := []) hy)
    rcases cloFrom_mem (PySem.mem_of_lookup h4) with hm' | ⟨h1, h2⟩
    · cases hm'
    · rw [h4, h2, hcN]
      rfl
  have hlenA := rA.length
  have hlenB := rB.length
  rw [List.length_map] at hlenA hlenB
  show wpAny _ _ (call (.builtin "sorted") [Value.ref a] [(Str.ofString "key", Value.ref f)]) _ _ _
  refine PySem.W.sorted_key_data (β := Int) (bs := ps) (vs := itsA) (R := fun v p => ∃ t, v = .int p t) (b := false) (fun p => .int (ns.getD p.toNat 0)) lA.isList (each_ints rA) (PySem.W.AllAlike.of fun _ _ => rfl) (PySem.W.Sortable.others fun _ => ⟨(fun z => by cases z), fun _ z => by cases z⟩) (by rw [List.length_map] at zA; exact zA) (fun x hx => ?_) (PyProof.Rows.ksk_s1 _ _) (fun x => PyProof.Rows.ksk_l1 _ _) (fun x => PyProof.Rows.ksk_t1 _ _) (fun v p hv hp h tk kp => ?_) (fun out c4 h' tk kp hnew hat hlen hout => ?_)
  · have := hr.un
    show X.A.units + 2 + 0 < cLine
    omega
  · obtain ⟨t, rfl⟩ := hv
    obtain ⟨p0, p1⟩ := hps p hp
    have hj : p.toNat < ns.length := by omega
    have hget : (ns.map V.int)[p.toNat]? = some (V.int (ns.getD p.toNat 0)) := by
      rw [List.getElem?_map, List.getD_eq_getElem?_getD, List.getElem?_eq_getElem hj]
      rfl
    obtain ⟨u, hu1, t2, hu2⟩ := rB.get hget
    subst hu2
    obtain ⟨cc, oc, vs, t3, e0, e2, e3, e4⟩ := hcr
    obtain ⟨ol, o1, o2⟩ := lB.isList
    obtain ⟨oz, z1, z2⟩ := hcell
    cases e0
    refine lam_item (s := { s2 with heap := h, toks := tk }) (kp _ _ hf) ⟨_, oc, vs, t3, rfl, kp _ _ e2, e3, e4⟩ ?_ ?_ l1 l2 l3 (fun n hn => l4 n hn) l5 l6 (hbind _ _ _ _ _ _) hcl ⟨oz, kp _ _ z1, z2⟩ ⟨ol, kp _ _ o1, o2⟩ p0 (by omega) (by simpa using hu1) l9 l10 l11
    · exact I2.nolimit.keeps kp
    · exact hr.depth
  · rw [PySem.W.dataLe_int] at hout
    exact ⟨.ref _, upd H2 (s2.heap.objs.size + 1) (.lst ((byKey ns ps).map V.int)), I2.laid kp (Nat.le_succ _) ⟨by
      rw [List.length_map]
      unfold byKey
      rw [List.length_mergeSort]
      rw [List.length_map] at zA
      exact zA, out, c4, each_vals hout, hat⟩, rfl, q H2 _ s12 (I2.hok.fresh (Nat.le_succ _))⟩
end
theorem de_sortK {ta : TA} {Γ : List B} {ps ns : List Int} {i : Nat} (h : DAr K ta Γ [.lst (dI ps)]) (hi : Γ[i]? = some (.im (.lst (dI ns)))) (hp : ∀ p ∈ ps, 0 ≤ p ∧ p < ns.length) (hl : ns.length ≤ 1000) : DE K (tSortK K i ta) Γ (.lst (dI (byKey ns ps))) := fun σ G H e s Q q =>
  h σ G H e s _ fun vs G1 H1 g1 r1 => by
    cases r1 with
    | cons a b =>
      cases b
      obtain ⟨v, h1, h2⟩ := (s.mono g1.g).im i _ hi
      cases a with
      | @lst a ws _ hs ra =>
        cases h2 with
        | @lst b us _ ht rb =>
          have e1 := RepA.dI_inv ra
          have e2 := RepA.dI_inv rb
          subst e1
          subst e2
          refine ⟨a, b, ps, ns, rfl, ls_same g1.i hs, h1, ls_same g1.i ht, hp, hl, (s.tb.mono g1.g).mono g1.i, fun H2 l s2 hl => ?_⟩
          have g2 : Grow G1 H1 G1 H2 := Grow.side g1.i s2
          exact q (.ref l) _ _ ((g1.trans g2).trans (Grow.new g2.i hl)) (.lst (LsX.of upd_same) (RepA.dI_mk _ _))
theorem tabIn_of {K : PySem.W.Frag} {x : Str} {f c P : Addr} {oc e : Value} {od dd : Option Addr} {fd : FuncData} {osl sl : Array (Option Value)} {vs : Array Value} (h1 : PySem.W.nsIn K mainGlobals x = some (some (.ref f))) (h2 : K.lookup f = some ⟨oc, od, .func fd, osl⟩) (h3 : fd.code = .ref c) (h4 : K.lookup c = some ⟨e, dd, .fields vs, sl⟩) (h5 : vs[11]? = some (.ref P)) : PySem.W.tabIn K x = some (c, P) := by
  unfold PySem.W.tabIn
  rw [h1]
  simp only [h2, h3, h4, h5]
theorem qn_med : (("median" : Str) ++ (".<locals>." : Str)) ++ ("<lambda>" : Str) = qMed := by decide +kernel
/-- a def that makes a lambda: its code object is told -/
theorem pure_okC {P : Program} {w : World} {K : PySem.W.Frag} {mg : Str → Option Value} {base : Heap} {x qual : Str} {st : Stmt} {f c PT : Addr} {fd : FuncData} {N ps : List Str} {k n : Nat} {R : List D → D → Prop} (F : Fun K x qual st f fd) (hg : PySem.W.nsIn K mainGlobals x = some (some (.ref f))) (ht : PySem.W.tabIn K x = some (c, PT)) (S : FnScope N ps (defScope st)) (hn : ps.length = n)
    (hb : ∀ (A : Around) (outer : List Env) (s : Shared) (H : Hp) (E : XK), Room k (A.deeper (envOfC qual (defScope st) s.heap.objs.size f (.ref c))) →
      ∃ t, PSs (cxOf CX0 P w K mg base N qual (defScope st) f (.ref c) A outer s H E).nox (defBody st) t ∧ ∀ ds d, R ds d → DS K t (startB N.length ds) { nx := fun _ => d = .non, rt := fun r => r = d }) :
    FnOk P w K mg base CX0 (k + 1) f fd ps (spR K n R) := by
  obtain ⟨oc, od, kV, doc, pm, an, cdv, ct, osl, rfl, lk, hcd⟩ := F.ex
  have hc : cdv = .ref c := by
    unfold PySem.W.tabIn at ht
    rw [hg] at ht
    simp only [lk] at ht
    split at ht
    · split at ht
      · split at ht
        · cases ht
          rfl
        · cases ht
      · cases ht
    · cases ht
  subst hc
  refine fn_of lk hcd S (fun vs H Q E h => ?_) fun A outer s H vs Q E hr h => ?_
  · obtain ⟨G, ds, d, h1, _, _, r, _⟩ := h
    rw [r.len, h1, hn]
  · obtain ⟨t, h1, h2⟩ := hb A outer s H E hr
    exact ⟨t, h1.nox, ds_run h2 h⟩
end DL

/-! DN: fractions as Rat, sizes of fractions, sums. -/
namespace DL
variable {K : PySem.W.Frag}
def qd (q : Rat) : D := .tup [.int q.num, .int (q.den : Int)]
/-- a / b, b above 0 -/
def frac (a b : Int) : Rat := mkRat a b.toNat
theorem frac_num {a b : Int} (h : 0 < b) : (frac a b).num = a / (Int.gcd a b : Int) := by
  unfold frac
  rw [← Rat.normalize_eq_mkRat (show b.toNat ≠ 0 by omega), Rat.normalize_eq]
  show a / ((a.natAbs.gcd b.toNat : Nat) : Int) = _
  rw [show b.toNat = b.natAbs by omega]
  rfl
theorem frac_den {a b : Int} (h : 0 < b) : ((frac a b).den : Int) = b / (Int.gcd a b : Int) := by
  unfold frac
  rw [← Rat.normalize_eq_mkRat (show b.toNat ≠ 0 by omega), Rat.normalize_eq]
  show ((b.toNat / a.natAbs.gcd b.toNat : Nat) : Int) = _
  rw [Int.natCast_ediv, show b.toNat = b.natAbs by omega, Int.natAbs_of_nonneg (by omega)]
  rfl
theorem frac_eq {a b : Int} (h : 0 < b) : frac a b = (a : Rat) / (b : Rat) := by
  unfold frac
  rw [Rat.mkRat_eq_div]
  congr 1
  rw [show (b : Rat) = ((b.toNat : Int) : Rat) by rw [Int.toNat_of_nonneg (by omega)]]
  rfl
theorem frac_add (p q : Rat) : frac (p.num * q.den + q.num * p.den) (p.den * q.den) = p + q := by
  unfold frac
  rw [Rat.add_def']
  rfl
theorem frac_plus {a b c d : Int} (hb : 0 < b) (hd : 0 < d) : frac (a * d + c * b) (b * d) = frac a b + frac c d := by
  unfold frac
  rw [Rat.mkRat_add_mkRat _ _ (by omega) (by omega)]
  congr 1
  · rw [Int.toNat_of_nonneg (by omega), Int.toNat_of_nonneg (by omega)]
  · rw [Int.toNat_mul (by omega) (by omega)]
theorem frac_self (q : Rat) : frac q.num q.den = q := by
  unfold frac
  show mkRat q.num q.den = q
  exact Rat.mkRat_self q
theorem frac_int (n : Int) : frac n 1 = (n : Rat) := by
  rw [frac_eq (by decide)]
  grind
theorem gcd_pos {a b : Int} (h : 0 < b) : 0 < (Int.gcd a b : Int) := by
  have : 0 < Int.gcd a b := Int.gcd_pos_of_ne_zero_right a (by omega)
  omega
theorem gcd_le {a b : Int} (h : 0 < b) : (Int.gcd a b : Int) ≤ b := Int.le_of_dvd h (Int.gcd_dvd_right a b)
def QFit (n m : Nat) (q : Rat) : Prop := Fit n q.num ∧ Fit m (q.den : Int)
theorem QFit.mono {n m n' m' : Nat} {q : Rat} (h : QFit n m q) (h1 : n ≤ n') (h2 : m ≤ m') : QFit n' m' q := ⟨h.1.mono h1, h.2.mono h2⟩
theorem QFit.frac {n m : Nat} {a b : Int} (h0 : 0 < b) (h1 : Fit n a) (h2 : Fit m b) : QFit n m (frac a b) :=
  ⟨by rw [frac_num h0]; exact h1.div (gcd_pos h0), by rw [frac_den h0]; exact h2.div (gcd_pos h0)⟩
theorem Fit.max {m n k : Nat} {i j : Int} (h : Fit m i) (h2 : Fit n j) (a : m ≤ k) (b : n ≤ k) : Fit (k + 1) (i + j) := (h.mono a).add (h2.mono b)
theorem QFit.add {n m n' m' k : Nat} {p q : Rat} (h : QFit n m p) (h2 : QFit n' m' q) (a : n + m' ≤ k) (b : n' + m ≤ k) : QFit (k + 1) (m + m') (p + q) := by
  rw [← frac_add]
  exact QFit.frac (by have := p.den_pos; have := q.den_pos; exact Int.mul_pos (by omega) (by omega)) ((h.1.mul h2.2).max (h2.1.mul h.2) a b) (h.2.mul h2.2)
theorem QFit.neg {n m : Nat} {p : Rat} (h : QFit n m p) : QFit n m (-p) := ⟨by rw [Rat.neg_num]; exact h.1.neg, h.2⟩
theorem QFit.zero : QFit 0 1 0 := ⟨⟨show (0 : Int).natAbs < 2 ^ 0 by decide⟩, ⟨show ((1 : Nat) : Int).natAbs < 2 ^ 1 by decide⟩⟩
theorem QFit.int {n : Nat} {i : Int} (h : Fit n i) : QFit n 1 (i : Rat) := ⟨by rw [Rat.num_intCast]; exact h, ⟨show ((1 : Nat) : Int).natAbs < 2 ^ 1 by decide⟩⟩
theorem den_pos (q : Rat) : (0 : Int) < (q.den : Int) := by have := q.den_pos; omega
/-- f 0 + .. + f (n - 1) -/
def sumTo (f : Nat → Rat) : Nat → Rat
  | 0 => 0
  | n + 1 => sumTo f n + f n
theorem sumTo_congr {f g : Nat → Rat} : ∀ {n : Nat}, (∀ i, i < n → f i = g i) → sumTo f n = sumTo g n
  | 0, _ => rfl
  | n + 1, h => by
    show sumTo f n + f n = sumTo g n + g n
    rw [sumTo_congr fun i hi => h i (by omega), h n (by omega)]
theorem sumTo_fit {f : Nat → Rat} {a m : Nat} : ∀ n : Nat, (∀ i, i < n → QFit a m (f i)) → QFit (a + n * (m + 2)) (m * n + 1) (sumTo f n) := fun n => by
  induction n with
  | zero => exact fun _ => QFit.zero.mono (Nat.zero_le _) (by omega)
  | succ n ih =>
    intro h
    have q := (ih fun i hi => h i (by omega)).add (k := a + n * (m + 2) + m + 1) (h n (by omega)) (by omega) (by
      have : m * n ≤ n * (m + 2) := by
        rw [Nat.mul_comm]
        exact Nat.mul_le_mul_left n (by omega)
      omega)
    refine q.mono (by rw [Nat.succ_mul]; omega) (by rw [Nat.mul_succ]; omega)
theorem numbered_get {α : Type} {xs : List α} {f : α → D} {i : Nat} {d : D} (z : α) (h : (numbered 0 (xs.map f))[i]? = some d) : i < xs.length ∧ d = .tup [.int (i : Int), f (xs.getD i z)] := by
  rw [numbered_at, List.getElem?_map] at h
  by_cases hi : i < xs.length
  · rw [List.getElem?_eq_getElem hi] at h
    refine ⟨hi, ?_⟩
    rw [List.getD_eq_getElem?_getD, List.getElem?_eq_getElem hi]
    cases h
    rw [Nat.zero_add]
    rfl
  · rw [List.getElem?_eq_none (by omega)] at h
    cases h
theorem map_get {α : Type} {xs : List α} {f : α → D} {i : Nat} {d : D} (z : α) (h : (xs.map f)[i]? = some d) : i < xs.length ∧ d = f (xs.getD i z) := by
  rw [List.getElem?_map] at h
  by_cases hi : i < xs.length
  · rw [List.getElem?_eq_getElem hi] at h
    refine ⟨hi, ?_⟩
    rw [List.getD_eq_getElem?_getD, List.getElem?_eq_getElem hi]
    cases h
    rfl
  · rw [List.getElem?_eq_none (by omega)] at h
    cases h
theorem dp_qd (n : Nat) (q : Rat) : deep (n + 1) (qd q) = true := by
  show ([D.int q.num, D.int (q.den : Int)].all (deep n)) = true
  cases n <;> rfl
theorem deep_map {α : Type} {f : α → D} (n : Nat) (xs : List α) (h : ∀ x, deep n (f x) = true) : deep (n + 1) (.lst (xs.map f)) = true := by
  show (xs.map f).all (deep n) = true
  rw [List.all_map]
  exact List.all_eq_true.mpr fun x _ => h x
theorem deep_dI2 (n : Nat) (xs : List (List Int)) : deep (n + 2) (.lst (xs.map fun a => D.lst (dI a))) = true := deep_map (n + 1) xs fun a => deep_dI n a
/-! ## written powers, sorting -/
def E30 : Int := 1000000000000000000000000000000
def E9 : Int := 1000000000
open PySem PySem.Spec PyProof.Rows L2 in
theorem r2_p30 : R2D K (rI CPow fun i j => .int (i ^ j.toNat)) (.int 10) (.int 30) (.int E30) := by
  have e : (10 : Int) ^ (30 : Int).toNat = E30 := by decide +kernel
  rw [← e]
  exact r2_pow ⟨by decide, by decide, by decide⟩
open PySem PySem.Spec PyProof.Rows L2 in
theorem r2_p9 : R2D K (rI CPow fun i j => .int (i ^ j.toNat)) (.int 10) (.int 9) (.int E9) := by
  have e : (10 : Int) ^ (9 : Int).toNat = E9 := by decide +kernel
  rw [← e]
  exact r2_pow ⟨by decide, by decide, by decide⟩
def srt (ns : List Int) : List Int := ns.mergeSort fun a b => decide (a ≤ b)
theorem srt_perm (ns : List Int) : (srt ns).Perm ns := List.mergeSort_perm _ _
theorem srt_up (ns : List Int) : (srt ns).Pairwise (· ≤ ·) := by
  have h := List.pairwise_mergeSort (le := fun a b : Int => decide (a ≤ b)) (fun a b c h1 h2 => decide_eq_true (Int.le_trans (of_decide_eq_true h1) (of_decide_eq_true h2))) (fun a b => by
    rcases Int.le_total a b with h | h
    · rw [decide_eq_true h]
      rfl
    · rw [decide_eq_true h]
      simp) ns
  exact h.imp fun h => of_decide_eq_true h
theorem srt_len (ns : List Int) : (srt ns).length = ns.length := (srt_perm ns).length_eq
theorem srt_mem {ns : List Int} {x : Int} : x ∈ srt ns ↔ x ∈ ns := (srt_perm ns).mem_iff
theorem rc_srt {K : PySem.W.Frag} {ns : List Int} : RCD K (L2.rSortedI K) [.lst (dI ns)] (.lst (dI (srt ns))) := rc_sorted (srt_perm ns) (srt_up ns)
end DL

/-! DZ: the end of a law's proof. -/
namespace DL
open PySem PySem.Spec PyProof.Rows L2
theorem fit_bits {z : Int} (b : Builtin.Int.intBits z ≤ 1048576) : Fit 1048577 z := ⟨by
  unfold Builtin.Int.intBits at b
  split at b
  · rename_i h0
    have : z = 0 := by simpa using h0
    rw [this]
    exact Nat.pow_pos (by decide)
  · exact Nat.lt_of_lt_of_le Nat.lt_log2_self (Nat.pow_le_pow_right (by decide) (by omega))⟩
/-- the end, where the table of median is told -/
theorem walk_ofL {l : PySem.W.OpenLaw} {n k : Nat} {q : Program} {loose : List Str} {XP : (Str → Option Value) → Heap → Prop} {YP : World → Heap → Prop} {d : DefRec} {K : Params → PySem.W.Frag} {CX : World → CXT} {sp : PySem.W.Frag → Sp} {x : Str}
    (hn : l.most = some n) (hn2 : n ≤ sizeLine) (hdf : d.params.defaults = []) (hr : Room k callerA)
    (hq : ((recsOf q).find? fun e => e.name == ("median" : Str)).isSome = true)
    (hY : ∀ (w : World) (h : Heap), YP w h → (K w.params).In h)
    (F : ∀ (w : World) (mg : Str → Option Value) (fa : Addr) (h : Heap), (K w.params).In h → h.Ns mainGlobals mg → mg d.name = some (.ref fa) →
      ∃ (fd : FuncData) (c P : Addr), PySem.W.tabIn (K w.params) "median" = some (c, P) ∧ (K w.params).lookup P = none ∧ (∀ (s : Shared) (u : Value), BindsTo s fd ⟨[u], []⟩ [(x, u)]) ∧
        ∀ base : Heap, (K w.params).In base → base.Ns mainGlobals mg → LamX.TabB base mg c P → FnOk l.prog w (K w.params) mg base (CX w) k fa fd [x] (sp (K w.params)))
    (hsp : ∀ (K : PySem.W.Frag) (H : Hp) (a : Addr) (ns : List Int), ns.length ≤ n → (∀ z ∈ ns, Fit 1048577 z) → TabsK K H → LsX K H a (ns.map V.int) → sp K [.ref a] H (fun v _ => v = .bl true) fun _ _ _ => False)
    (hCX : ∀ (w : World) (H : Hp) (s : Shared) (e : Value) (s' : Shared), CX w [] H s (fun _ _ _ => False) e s' → False) :
    PySem.W.WalkO q loose XP YP l.row.toRowW d [] (fun f vs => PySem.call f vs) := by
  refine Att.attach_callB hn hdf fun w s0 s1 mg mb fa o pm cd doc a vs ns G Y ho hd hcd hmg hobj hints hlen hbits hg => ?_
  have KX := hY w _ Y
  obtain ⟨fd, c, P, ht, nP, hb, hF⟩ := F w mg fa _ KX G.T.g hmg
  obtain ⟨dM, hM⟩ := Option.isSome_iff_exists.mp hq
  obtain ⟨hC, hT⟩ := PySem.W.tab_of G.T KX hM ht
  refine LamX.law_callTs (cs := [(c, P)]) KX G.T.g G.T.b G.T.builtins G.T.nolimit hg (fun p hp => ?_) (fun p hp => ?_) (fun p hp => ?_) G.T.bmain hobj hints (Nat.le_trans hlen hn2) hr
    (fun base h1 h2 h3 => hF base h1 h2 (h3 (c, P) List.mem_cons_self)) hb (fun H hH hS => hsp _ H a ns hlen (fun z hz => fit_bits (hbits z hz)) (fun c' P' h' => ?_) ?_) fun H e s' => hCX w H s1 e s'
  · rw [List.mem_singleton.mp hp]
    exact hT
  · rw [List.mem_singleton.mp hp]
    exact nP
  · rw [List.mem_singleton.mp hp]
    exact hC
  · rw [ht] at h'
    cases h'
    exact LamX.TabS.nil (hH _ List.mem_cons_self)
  · rcases hS with hS | ⟨o, its, m, h1, h2, h3, h4, h5, h6⟩
    · exact .inl hS
    · have e := KX a o h1
      rw [hobj] at e
      cases e
      cases h4
      exact .inr ⟨_, _, h1, h5, h6⟩
theorem goes_ofL {R : List D → D → Prop} (h : ∀ ns : List Int, ns.length ≤ 63 → (∀ z ∈ ns, Fit 1048577 z) → R [.lst (dI ns)] (.bl true)) (K : PySem.W.Frag) (H : Hp) (a : Addr) (ns : List Int) (hl : ns.length ≤ 63) (hf : ∀ z ∈ ns, Fit 1048577 z)
    (tb : TabsK K H) (hS : LsX K H a (ns.map V.int)) : spR K 1 R [.ref a] H (fun v _ => v = .bl true) fun _ _ _ => False :=
  ⟨H, [.lst (dI ns)], .bl true, rfl, Same.refl H, tb, .cons (.lst hS (RepA.dI_mk H ns)) .nil, h ns hl hf, fun v G' H' _ r => by
    cases r
    rfl⟩
end DL

namespace U
open PySem PySem.Spec PyProof.Rows L2 DL
/-! ## the text -/
def topS (i : Nat) : Stmt := PySem.Challenge.pw_uprow_k08_refused.main.body.getD i (.Pass ⟨0, 0, 0, 0⟩)
abbrev s_is_number : Stmt := topS 8
abbrev N_is_number : List Str := ["thing"]
theorem sc_is_number : FnScope N_is_number ["thing"] (defScope s_is_number) := ⟨rfl, rfl, rfl, by decide +kernel, rfl, by decide +kernel, by decide +kernel⟩
abbrev s_common : Stmt := topS 9
abbrev N_common : List Str := ["one", "other"]
theorem sc_common : FnScope N_common ["one", "other"] (defScope s_common) := ⟨rfl, rfl, rfl, by decide +kernel, rfl, by decide +kernel, by decide +kernel⟩
abbrev s_is_fraction : Stmt := topS 10
abbrev N_is_fraction : List Str := ["thing"]
theorem sc_is_fraction : FnScope N_is_fraction ["thing"] (defScope s_is_fraction) := ⟨rfl, rfl, rfl, by decide +kernel, rfl, by decide +kernel, by decide +kernel⟩
abbrev s_are_numbers : Stmt := topS 14
abbrev N_are_numbers : List Str := ["thing", "one"]
theorem sc_are_numbers : FnScope N_are_numbers ["thing"] (defScope s_are_numbers) := ⟨rfl, rfl, rfl, by decide +kernel, rfl, by decide +kernel, by decide +kernel⟩
abbrev s_check_numbers : Stmt := topS 15
abbrev N_check_numbers : List Str := ["numbers"]
theorem sc_check_numbers : FnScope N_check_numbers ["numbers"] (defScope s_check_numbers) := ⟨rfl, rfl, rfl, by decide +kernel, rfl, by decide +kernel, by decide +kernel⟩
abbrev s_check_row : Stmt := topS 16
abbrev N_check_row : List Str := ["numbers", "row"]
theorem sc_check_row : FnScope N_check_row ["numbers", "row"] (defScope s_check_row) := ⟨rfl, rfl, rfl, by decide +kernel, rfl, by decide +kernel, by decide +kernel⟩
abbrev s_check_weights : Stmt := topS 17
abbrev N_check_weights : List Str := ["numbers", "weights", "weight"]
theorem sc_check_weights : FnScope N_check_weights ["numbers", "weights"] (defScope s_check_weights) := ⟨rfl, rfl, rfl, by decide +kernel, rfl, by decide +kernel, by decide +kernel⟩
abbrev s_greatest : Stmt := topS 20
abbrev N_greatest : List Str := ["numbers", "row"]
theorem sc_greatest : FnScope N_greatest ["numbers", "row"] (defScope s_greatest) := ⟨rfl, rfl, rfl, by decide +kernel, rfl, by decide +kernel, by decide +kernel⟩
abbrev s_summed_up : Stmt := topS 21
abbrev N_summed_up : List Str := ["numbers", "row", "weights"]
theorem sc_summed_up : FnScope N_summed_up ["numbers", "row", "weights"] (defScope s_summed_up) := ⟨rfl, rfl, rfl, by decide +kernel, rfl, by decide +kernel, by decide +kernel⟩
abbrev s_squares : Stmt := topS 22
abbrev N_squares : List Str := ["numbers", "row", "weights", "found", "at", "above", "below", "far", "one"]
theorem sc_squares : FnScope N_squares ["numbers", "row", "weights"] (defScope s_squares) := ⟨rfl, rfl, rfl, by decide +kernel, rfl, by decide +kernel, by decide +kernel⟩
abbrev s_evened : Stmt := topS 34
abbrev N_evened : List Str := ["numbers", "first", "second", "half", "number"]
theorem sc_evened : FnScope N_evened ["numbers"] (defScope s_evened) := ⟨rfl, rfl, rfl, by decide +kernel, rfl, by decide +kernel, by decide +kernel⟩
abbrev s_median : Stmt := topS 35
abbrev N_median : List Str := ["numbers", "weights", "places", "whole", "found", "below", "at"]
theorem sc_median : FnScope N_median ["numbers", "weights", "places"] (defScope s_median) := ⟨rfl, rfl, rfl, by decide +kernel, rfl, by decide +kernel, by decide +kernel⟩
abbrev s_summed : Stmt := topS 38
abbrev N_summed : List Str := ["numbers", "weights", "row", "pulls", "places", "level"]
theorem sc_summed : FnScope N_summed ["numbers", "weights"] (defScope s_summed) := ⟨rfl, rfl, rfl, by decide +kernel, rfl, by decide +kernel, by decide +kernel⟩
abbrev s_squared : Stmt := topS 39
abbrev N_squared : List Str := ["numbers", "weights", "found", "at", "many", "total", "weight", "one", "other", "more", "row"]
theorem sc_squared : FnScope N_squared ["numbers", "weights"] (defScope s_squared) := ⟨rfl, rfl, rfl, by decide +kernel, rfl, by decide +kernel, by decide +kernel⟩
abbrev s_upper : Stmt := topS 41
abbrev N_upper : List Str := ["numbers"]
theorem sc_upper : FnScope N_upper ["numbers"] (defScope s_upper) := ⟨rfl, rfl, rfl, by decide +kernel, rfl, by decide +kernel, by decide +kernel⟩
abbrev s_lower : Stmt := topS 42
abbrev N_lower : List Str := ["numbers"]
theorem sc_lower : FnScope N_lower ["numbers"] (defScope s_lower) := ⟨rfl, rfl, rfl, by decide +kernel, rfl, by decide +kernel, by decide +kernel⟩
abbrev s_band : Stmt := topS 43
abbrev N_band : List Str := ["numbers", "most", "first", "second", "lows", "number"]
theorem sc_band : FnScope N_band ["numbers", "most"] (defScope s_band) := ⟨rfl, rfl, rfl, by decide +kernel, rfl, by decide +kernel, by decide +kernel⟩
abbrev s__law_ask : Stmt := topS 45
abbrev N__law_ask : List Str := ["_law_door", "_law_thing", "_law_good"]
theorem sc__law_ask : FnScope N__law_ask ["_law_door", "_law_thing"] (defScope s__law_ask) := ⟨rfl, rfl, rfl, by decide +kernel, rfl, by decide +kernel, by decide +kernel⟩
abbrev s__law_more : Stmt := topS 46
abbrev N__law_more : List Str := ["_law_door", "_law_thing"]
theorem sc__law_more : FnScope N__law_more ["_law_door", "_law_thing"] (defScope s__law_more) := ⟨rfl, rfl, rfl, by decide +kernel, rfl, by decide +kernel, by decide +kernel⟩
abbrev s__law_rows : Stmt := topS 47
abbrev N__law_rows : List Str := ["_law_door", "_law_thing"]
theorem sc__law_rows : FnScope N__law_rows ["_law_door", "_law_thing"] (defScope s__law_rows) := ⟨rfl, rfl, rfl, by decide +kernel, rfl, by decide +kernel, by decide +kernel⟩
abbrev s__law_due : Stmt := topS 48
abbrev N__law_due : List Str := ["_law_door", "_law_thing", "_law_due_here", "error", "_law_found", "_law_k"]
theorem sc__law_due : FnScope N__law_due ["_law_door", "_law_thing", "_law_due_here"] (defScope s__law_due) := ⟨rfl, rfl, rfl, by decide +kernel, rfl, by decide +kernel, by decide +kernel⟩
abbrev s__law_bad_numbers : Stmt := topS 49
abbrev N__law_bad_numbers : List Str := ["_law_cell"]
theorem sc__law_bad_numbers : FnScope N__law_bad_numbers ["_law_cell"] (defScope s__law_bad_numbers) := ⟨rfl, rfl, rfl, by decide +kernel, rfl, by decide +kernel, by decide +kernel⟩
abbrev s__law_bad_weights : Stmt := topS 50
abbrev N__law_bad_weights : List Str := ["_law_cell", "_law_some"]
theorem sc__law_bad_weights : FnScope N__law_bad_weights ["_law_cell"] (defScope s__law_bad_weights) := ⟨rfl, rfl, rfl, by decide +kernel, rfl, by decide +kernel, by decide +kernel⟩
abbrev s__law_bad_rows : Stmt := topS 51
abbrev N__law_bad_rows : List Str := ["_law_cell"]
theorem sc__law_bad_rows : FnScope N__law_bad_rows ["_law_cell"] (defScope s__law_bad_rows) := ⟨rfl, rfl, rfl, by decide +kernel, rfl, by decide +kernel, by decide +kernel⟩
abbrev s__law_bad_fractions : Stmt := topS 52
abbrev N__law_bad_fractions : List Str := ["_law_cell", "_law_some"]
theorem sc__law_bad_fractions : FnScope N__law_bad_fractions ["_law_cell"] (defScope s__law_bad_fractions) := ⟨rfl, rfl, rfl, by decide +kernel, rfl, by decide +kernel, by decide +kernel⟩
abbrev s__law_bad_mosts : Stmt := topS 53
abbrev N__law_bad_mosts : List Str := ["_law_cell"]
theorem sc__law_bad_mosts : FnScope N__law_bad_mosts ["_law_cell"] (defScope s__law_bad_mosts) := ⟨rfl, rfl, rfl, by decide +kernel, rfl, by decide +kernel, by decide +kernel⟩
abbrev s_law : Stmt := topS 54
abbrev N_law : List Str := ["_law_script", "_law_kinds", "_law_doors", "_law_things", "_law_due_here", "_law_door", "_law_cell", "_law_some", "_law_thing"]
theorem sc_law : FnScope N_law ["_law_script"] (defScope s_law) := ⟨rfl, rfl, rfl, by decide +kernel, rfl, by decide +kernel, by decide +kernel⟩
theorem bt_ValueError : bootBuiltins "ValueError" = some (.type "ValueError") := by decide +kernel
theorem bt_abs : bootBuiltins "abs" = some (.builtin "abs") := by decide +kernel
theorem bt_all : bootBuiltins "all" = some (.builtin "all") := by decide +kernel
theorem bt_bool : bootBuiltins "bool" = some (.type "bool") := by decide +kernel
theorem bt_int : bootBuiltins "int" = some (.type "int") := by decide +kernel
theorem bt_isinstance : bootBuiltins "isinstance" = some (.builtin "isinstance") := by decide +kernel
theorem bt_len : bootBuiltins "len" = some (.builtin "len") := by decide +kernel
theorem bt_list : bootBuiltins "list" = some (.type "list") := by decide +kernel
theorem bt_range : bootBuiltins "range" = some (.type "range") := by decide +kernel
theorem bt_sorted : bootBuiltins "sorted" = some (.builtin "sorted") := by decide +kernel
theorem bt_sum : bootBuiltins "sum" = some (.builtin "sum") := by decide +kernel
theorem bt_tuple : bootBuiltins "tuple" = some (.type "tuple") := by decide +kernel
/-- what the top has written -/
structure Tx (K : PySem.W.Frag) (mg : Str → Option Value) (base : Heap) where
  a_is_number : Addr
  d_is_number : FuncData
  F_is_number : Fun K "is_number" "is_number" s_is_number a_is_number d_is_number
  g_is_number : mg "is_number" = some (.ref a_is_number)
  b_is_number : Binds K d_is_number ["thing"] []
  a_common : Addr
  d_common : FuncData
  F_common : Fun K "common" "common" s_common a_common d_common
  g_common : mg "common" = some (.ref a_common)
  b_common : Binds K d_common ["one", "other"] []
  a_is_fraction : Addr
  d_is_fraction : FuncData
  F_is_fraction : Fun K "is_fraction" "is_fraction" s_is_fraction a_is_fraction d_is_fraction
  g_is_fraction : mg "is_fraction" = some (.ref a_is_fraction)
  b_is_fraction : Binds K d_is_fraction ["thing"] []
  a_are_numbers : Addr
  d_are_numbers : FuncData
  F_are_numbers : Fun K "are_numbers" "are_numbers" s_are_numbers a_are_numbers d_are_numbers
  g_are_numbers : mg "are_numbers" = some (.ref a_are_numbers)
  b_are_numbers : Binds K d_are_numbers ["thing"] []
  a_check_numbers : Addr
  d_check_numbers : FuncData
  F_check_numbers : Fun K "check_numbers" "check_numbers" s_check_numbers a_check_numbers d_check_numbers
  g_check_numbers : mg "check_numbers" = some (.ref a_check_numbers)
  b_check_numbers : Binds K d_check_numbers ["numbers"] []
  a_check_row : Addr
  d_check_row : FuncData
  F_check_row : Fun K "check_row" "check_row" s_check_row a_check_row d_check_row
  g_check_row : mg "check_row" = some (.ref a_check_row)
  b_check_row : Binds K d_check_row ["numbers", "row"] []
  a_check_weights : Addr
  d_check_weights : FuncData
  F_check_weights : Fun K "check_weights" "check_weights" s_check_weights a_check_weights d_check_weights
  g_check_weights : mg "check_weights" = some (.ref a_check_weights)
  b_check_weights : Binds K d_check_weights ["numbers", "weights"] []
  a_greatest : Addr
  d_greatest : FuncData
  F_greatest : Fun K "greatest" "greatest" s_greatest a_greatest d_greatest
  g_greatest : mg "greatest" = some (.ref a_greatest)
  b_greatest : Binds K d_greatest ["numbers", "row"] []
  a_summed_up : Addr
  d_summed_up : FuncData
  F_summed_up : Fun K "summed_up" "summed_up" s_summed_up a_summed_up d_summed_up
  g_summed_up : mg "summed_up" = some (.ref a_summed_up)
  b_summed_up : Binds K d_summed_up ["numbers", "row", "weights"] []
  a_squares : Addr
  d_squares : FuncData
  F_squares : Fun K "squares" "squares" s_squares a_squares d_squares
  g_squares : mg "squares" = some (.ref a_squares)
  b_squares : Binds K d_squares ["numbers", "row", "weights"] []
  a_evened : Addr
  d_evened : FuncData
  F_evened : Fun K "evened" "evened" s_evened a_evened d_evened
  g_evened : mg "evened" = some (.ref a_evened)
  b_evened : Binds K d_evened ["numbers"] []
  a_median : Addr
  d_median : FuncData
  F_median : Fun K "median" "median" s_median a_median d_median
  g_median : mg "median" = some (.ref a_median)
  b_median : Binds K d_median ["numbers", "weights", "places"] []
  a_summed : Addr
  d_summed : FuncData
  F_summed : Fun K "summed" "summed" s_summed a_summed d_summed
  g_summed : mg "summed" = some (.ref a_summed)
  b_summed : Binds K d_summed ["numbers", "weights"] []
  a_squared : Addr
  d_squared : FuncData
  F_squared : Fun K "squared" "squared" s_squared a_squared d_squared
  g_squared : mg "squared" = some (.ref a_squared)
  b_squared : Binds K d_squared ["numbers", "weights"] []
  a_upper : Addr
  d_upper : FuncData
  F_upper : Fun K "upper" "upper" s_upper a_upper d_upper
  g_upper : mg "upper" = some (.ref a_upper)
  b_upper : Binds K d_upper ["numbers"] []
  a_lower : Addr
  d_lower : FuncData
  F_lower : Fun K "lower" "lower" s_lower a_lower d_lower
  g_lower : mg "lower" = some (.ref a_lower)
  b_lower : Binds K d_lower ["numbers"] []
  a_band : Addr
  d_band : FuncData
  F_band : Fun K "band" "band" s_band a_band d_band
  g_band : mg "band" = some (.ref a_band)
  b_band : Binds K d_band ["numbers", "most"] []
  a__law_ask : Addr
  d__law_ask : FuncData
  F__law_ask : Fun K "_law_ask" "_law_ask" s__law_ask a__law_ask d__law_ask
  g__law_ask : mg "_law_ask" = some (.ref a__law_ask)
  b__law_ask : Binds K d__law_ask ["_law_door", "_law_thing"] []
  a__law_more : Addr
  d__law_more : FuncData
  F__law_more : Fun K "_law_more" "_law_more" s__law_more a__law_more d__law_more
  g__law_more : mg "_law_more" = some (.ref a__law_more)
  b__law_more : Binds K d__law_more ["_law_door", "_law_thing"] []
  a__law_rows : Addr
  d__law_rows : FuncData
  F__law_rows : Fun K "_law_rows" "_law_rows" s__law_rows a__law_rows d__law_rows
  g__law_rows : mg "_law_rows" = some (.ref a__law_rows)
  b__law_rows : Binds K d__law_rows ["_law_door", "_law_thing"] []
  a__law_due : Addr
  d__law_due : FuncData
  F__law_due : Fun K "_law_due" "_law_due" s__law_due a__law_due d__law_due
  g__law_due : mg "_law_due" = some (.ref a__law_due)
  b__law_due : Binds K d__law_due ["_law_door", "_law_thing", "_law_due_here"] []
  a__law_bad_numbers : Addr
  d__law_bad_numbers : FuncData
  F__law_bad_numbers : Fun K "_law_bad_numbers" "_law_bad_numbers" s__law_bad_numbers a__law_bad_numbers d__law_bad_numbers
  g__law_bad_numbers : mg "_law_bad_numbers" = some (.ref a__law_bad_numbers)
  b__law_bad_numbers : Binds K d__law_bad_numbers ["_law_cell"] []
  a__law_bad_weights : Addr
  d__law_bad_weights : FuncData
  F__law_bad_weights : Fun K "_law_bad_weights" "_law_bad_weights" s__law_bad_weights a__law_bad_weights d__law_bad_weights
  g__law_bad_weights : mg "_law_bad_weights" = some (.ref a__law_bad_weights)
  b__law_bad_weights : Binds K d__law_bad_weights ["_law_cell"] []
  a__law_bad_rows : Addr
  d__law_bad_rows : FuncData
  F__law_bad_rows : Fun K "_law_bad_rows" "_law_bad_rows" s__law_bad_rows a__law_bad_rows d__law_bad_rows
  g__law_bad_rows : mg "_law_bad_rows" = some (.ref a__law_bad_rows)
  b__law_bad_rows : Binds K d__law_bad_rows ["_law_cell"] []
  a__law_bad_fractions : Addr
  d__law_bad_fractions : FuncData
  F__law_bad_fractions : Fun K "_law_bad_fractions" "_law_bad_fractions" s__law_bad_fractions a__law_bad_fractions d__law_bad_fractions
  g__law_bad_fractions : mg "_law_bad_fractions" = some (.ref a__law_bad_fractions)
  b__law_bad_fractions : Binds K d__law_bad_fractions ["_law_cell"] []
  a__law_bad_mosts : Addr
  d__law_bad_mosts : FuncData
  F__law_bad_mosts : Fun K "_law_bad_mosts" "_law_bad_mosts" s__law_bad_mosts a__law_bad_mosts d__law_bad_mosts
  g__law_bad_mosts : mg "_law_bad_mosts" = some (.ref a__law_bad_mosts)
  b__law_bad_mosts : Binds K d__law_bad_mosts ["_law_cell"] []
  a_law : Addr
  d_law : FuncData
  F_law : Fun K "law" "law" s_law a_law d_law
  g_law : mg "law" = some (.ref a_law)
  b_law : Binds K d_law ["_law_script"] []
  m_ValueError : mg "ValueError" = none
  m_abs : mg "abs" = none
  m_all : mg "all" = none
  m_bool : mg "bool" = none
  m_int : mg "int" = none
  m_isinstance : mg "isinstance" = none
  m_len : mg "len" = none
  m_list : mg "list" = none
  m_range : mg "range" = none
  m_sorted : mg "sorted" = none
  m_sum : mg "sum" = none
  m_tuple : mg "tuple" = none
  C_BadMost : Addr
  g_BadMost : mg "BadMost" = some (.ref C_BadMost)
  C_BadNumbers : Addr
  g_BadNumbers : mg "BadNumbers" = some (.ref C_BadNumbers)
  C_BadRow : Addr
  g_BadRow : mg "BadRow" = some (.ref C_BadRow)
  C_BadWeights : Addr
  g_BadWeights : mg "BadWeights" = some (.ref C_BadWeights)
  C_RowError : Addr
  g_RowError : mg "RowError" = some (.ref C_RowError)
  c_tab : Addr
  P_tab : Addr
  tab : PySem.W.tabIn K "median" = some (c_tab, P_tab)
  TB : LamX.TabB base mg c_tab P_tab
  ns_median : PySem.W.nsIn K mainGlobals "median" = some (some (.ref a_median))
  e_BadMost : ErrC K C_BadMost
  e_BadNumbers : ErrC K C_BadNumbers
  e_BadRow : ErrC K C_BadRow
  e_BadWeights : ErrC K C_BadWeights
  x_BadMost : PySem.W.exmOne K (.ref C_BadMost) (.ref C_RowError) = some true
  v_BadMost : PySem.W.kitOne K (.ref C_BadMost) (.type "ValueError") = some true
  q_BadMost_BadMost : PySem.W.kitOne K (.ref C_BadMost) (.ref C_BadMost) = some true
  q_BadMost_BadNumbers : PySem.W.kitOne K (.ref C_BadMost) (.ref C_BadNumbers) = some false
  q_BadMost_BadRow : PySem.W.kitOne K (.ref C_BadMost) (.ref C_BadRow) = some false
  q_BadMost_BadWeights : PySem.W.kitOne K (.ref C_BadMost) (.ref C_BadWeights) = some false
  x_BadNumbers : PySem.W.exmOne K (.ref C_BadNumbers) (.ref C_RowError) = some true
  v_BadNumbers : PySem.W.kitOne K (.ref C_BadNumbers) (.type "ValueError") = some true
  q_BadNumbers_BadMost : PySem.W.kitOne K (.ref C_BadNumbers) (.ref C_BadMost) = some false
  q_BadNumbers_BadNumbers : PySem.W.kitOne K (.ref C_BadNumbers) (.ref C_BadNumbers) = some true
  q_BadNumbers_BadRow : PySem.W.kitOne K (.ref C_BadNumbers) (.ref C_BadRow) = some false
  q_BadNumbers_BadWeights : PySem.W.kitOne K (.ref C_BadNumbers) (.ref C_BadWeights) = some false
  x_BadRow : PySem.W.exmOne K (.ref C_BadRow) (.ref C_RowError) = some true
  v_BadRow : PySem.W.kitOne K (.ref C_BadRow) (.type "ValueError") = some true
  q_BadRow_BadMost : PySem.W.kitOne K (.ref C_BadRow) (.ref C_BadMost) = some false
  q_BadRow_BadNumbers : PySem.W.kitOne K (.ref C_BadRow) (.ref C_BadNumbers) = some false
  q_BadRow_BadRow : PySem.W.kitOne K (.ref C_BadRow) (.ref C_BadRow) = some true
  q_BadRow_BadWeights : PySem.W.kitOne K (.ref C_BadRow) (.ref C_BadWeights) = some false
  x_BadWeights : PySem.W.exmOne K (.ref C_BadWeights) (.ref C_RowError) = some true
  v_BadWeights : PySem.W.kitOne K (.ref C_BadWeights) (.type "ValueError") = some true
  q_BadWeights_BadMost : PySem.W.kitOne K (.ref C_BadWeights) (.ref C_BadMost) = some false
  q_BadWeights_BadNumbers : PySem.W.kitOne K (.ref C_BadWeights) (.ref C_BadNumbers) = some false
  q_BadWeights_BadRow : PySem.W.kitOne K (.ref C_BadWeights) (.ref C_BadRow) = some false
  q_BadWeights_BadWeights : PySem.W.kitOne K (.ref C_BadWeights) (.ref C_BadWeights) = some true
def Tx.err {K : PySem.W.Frag} {mg : Str → Option Value} {base : Heap} (T : Tx K mg base) : Err4 := ⟨T.C_BadNumbers, T.C_BadWeights, T.C_BadRow, T.C_BadMost⟩
end U

namespace U
open PySem PySem.Spec PyProof.Rows L2 DL
section
variable {P : Program} {w : World} {K : PySem.W.Frag} {mg : Str → Option Value} {base : Heap}
local macro_rules | `(tactic| walk_at "lk") => `(tactic| first | with_reducible exact look_hit | ((with_reducible refine look_miss (by decide +kernel) ?_); walk_at "lk") | with_reducible exact look_nil)
local macro_rules | `(tactic| walk_at "fz") => `(tactic| simp only [fz, fzB, chF, Ch.d, List.map, List.set])
local macro_rules | `(tactic| walk_at "ob") => `(tactic| first
  | ((with_reducible show look _ _ = _); walk_at "lk")
  | with_reducible apply de_callO | ((with_reducible show B.d _ = _); rfl) | ((with_reducible apply de_either1); (with_reducible apply de_meth); exact de_var rfl) | ((with_reducible apply de_either2); (with_reducible apply de_meth); exact de_var rfl)
  | with_reducible exact de_cls | with_reducible apply de_fld | with_reducible apply rc_isC | with_reducible apply de_meth
  | walk_at "cl")
local macro_rules | `(tactic| walk_at "r2") => `(tactic| (fail_if_success (with_reducible show R2D _ _ D.non _ _)); (fail_if_success (with_reducible show R2D _ _ _ D.non _)); first
  | exact r2_add | exact r2_sub | exact r2_lt | exact r2_le | exact r2_gt | exact r2_ge
  | with_reducible exact r2_p30 | with_reducible exact r2_p9
  | with_reducible apply r2_mod | with_reducible apply r2_fdiv | with_reducible apply r2_mul | with_reducible apply r2_pow | with_reducible apply r2_cat | with_reducible apply r2_rep1
  | exact r2_ixT rfl | exact r2_ixL rfl | with_reducible apply r2_ixN | with_reducible apply r2_ixI
  | exact r2_eqI | exact r2_neI | exact r2_eqB | exact r2_neB | exact r2_eqL | exact r2_neL | exact r2_isB | exact r2_notB)
local macro_rules | `(tactic| walk_at "rc") => `(tactic| (fail_if_success (with_reducible show RCD _ _ [D.non] _)); (fail_if_success (with_reducible show RCD _ _ [D.non, _] _)); (fail_if_success (with_reducible show RCD _ _ [_, D.non] _)); first
  | with_reducible exact rc_srt
  | exact rc_abs | exact rc_max2 | exact rc_min2 | exact rc_sum | exact rc_all | exact rc_any | exact rc_lenL | exact rc_lenT | exact rc_listL | exact rc_listT
  | with_reducible apply rc_int | with_reducible apply rc_bool | with_reducible apply rc_list | with_reducible apply rc_tuple)
local macro_rules | `(tactic| walk_at "d1") => `(tactic| first
  | with_reducible exact de_int | with_reducible exact de_bl | with_reducible exact de_non | exact de_var rfl
  | with_reducible exact da_nil | with_reducible apply da_cons
  | with_reducible apply de_op | with_reducible apply de_un | with_reducible apply de_cb | with_reducible apply de_call
  | with_reducible apply de_tup | with_reducible apply de_lst
  | with_reducible apply de_andV | with_reducible apply de_orV | with_reducible apply de_notV | ((with_reducible show _ = true → _); intro _) | ((with_reducible show _ = false → _); intro _)
  | with_reducible apply dt_and | with_reducible apply dt_or | with_reducible apply dt_not | with_reducible apply dt_test | with_reducible apply dt_B
  | with_reducible apply de_slice | with_reducible exact do_none | with_reducible apply do_some | with_reducible apply de_rev
  | with_reducible apply de_maxD | with_reducible apply de_chain3 | with_reducible apply de_chain
  | walk_at "r2" | walk_at "rc" | walk_at "ob"
  | ((with_reducible show R1D _ _ (D.int _) _); exact r1_neg)
  | with_reducible exact de_ty
  | with_reducible exact ne_int | with_reducible exact ne_lst | with_reducible exact ne_tup | with_reducible exact ne_bl
  | ((with_reducible show List.length _ = _); rfl) | ((with_reducible show List.length _ + 1 = _); rfl)
  | (with_reducible show List.length _ ≤ 1000); exact Nat.le_of_ble_eq_true rfl)
local macro_rules | `(tactic| walk_at "dg") => `(tactic| repeat' (first | exact dg_name _ trivial | exact dg_name _ (by decide) | with_reducible exact dg_nil | with_reducible apply dg_cons | with_reducible apply dg_tup | ((with_reducible show List.length _ = _); rfl)))
local macro_rules | `(tactic| walk_at "de") => `(tactic| repeat' walk_at "d1")
local macro_rules | `(tactic| walk_at "ret") => `(tactic| (apply ds_ret; apply deo; walk_at "de"))
local macro_rules | `(tactic| walk_at "asg") => `(tactic| (apply ds_seq; apply ds_asg; apply deo; walk_at "de"))
local macro_rules | `(tactic| walk_at "drop") => `(tactic| (apply ds_seq; apply ds_drop; apply deo; walk_at "de"))
local macro_rules | `(tactic| walk_at "par") => `(tactic| (apply ds_seq; apply ds_par; apply dao; walk_at "de"))
local macro_rules | `(tactic| walk_at "parG") => `(tactic| (apply ds_seq; apply ds_asgG; apply deo; walk_at "de"; walk_at "dg"))
local macro_rules | `(tactic| walk_at "lc") => `(tactic| first | with_reducible exact lookC_hit | with_reducible exact lookC_nil | ((with_reducible refine lookC_miss (by decide +kernel) ?_); walk_at "lc"))
local macro_rules | `(tactic| walk_at "pc") => `(tactic| first | with_reducible exact putC_hit | with_reducible exact putC_nil | ((with_reducible apply putC_miss); (decide +kernel); (walk_at "pc")))
/-! ## asking what a thing is -/
def isNum : D → Bool
  | .int _ => true
  | _ => false
/-- a thing that isinstance can be asked of -/
def ok0 : D → Bool
  | .op _ | .ty _ | .cls _ | .ins _ _ => false
  | _ => true
theorem ne_ok {x : D} (h : ok0 x = true) : tyN x ≠ "" := by
  cases x with
  | non => exact ne_non
  | bl _ => exact ne_bl
  | int _ => exact ne_int
  | str _ => exact ne_str
  | lst _ => exact ne_lst
  | tup _ => exact ne_tup
  | dct => exact ne_dct
  | ins _ _ => cases h
  | ty _ => cases h
  | cls _ => cases h
  | op _ => cases h
def R_is_number (ds : List D) (d : D) : Prop := ∃ x, ds = [x] ∧ tyN x ≠ "" ∧ d = .bl (isNum x)
theorem ok_is_number (T : Tx K mg base) : FnOk P w K mg base CX0 1 T.a_is_number T.d_is_number ["thing"] (spR K 1 R_is_number) := by
  refine pure_ok T.F_is_number sc_is_number rfl (fun cdv A outer s H E hr => ?_)
  have nd := sc_is_number.nd
  have hu := hr.units
  refine ⟨_, (pss_one (ps_ret (pe_and (pe_callB (isiK K) (by rfl) T.m_isinstance bt_isinstance (pa_cons (pv 0) (pa_cons (pe_bltn (v := .ty "int") (by rfl) T.m_int bt_int rfl) pa_nil))) (pe_one (pe_not (pe_callB (isiK K) (by rfl) T.m_isinstance bt_isinstance (pa_cons (pv 0) (pa_cons (pe_bltn (v := .ty "bool") (by rfl) T.m_bool bt_bool rfl) pa_nil)))))))), fun ds d h => ?_⟩
  obtain ⟨x, rfl, hx, rfl⟩ := h
  change DS _ _ [B.im _] _
  walk_at "ret"
  · exact hx
  · exact hx
  · cases x <;> rfl
/-- the loop of Euclid -/
theorem gcd_turn (a b : Int) : Int.gcd b (a % b) = Int.gcd a b := by
  have h := Int.mul_ediv_add_emod a b
  conv => rhs; rw [← h]
  rw [Int.gcd_mul_left_add_left, Int.gcd_comm]
def R_common (ds : List D) (d : D) : Prop := ∃ a b, ds = [.int a, .int b] ∧ d = .int (Int.gcd a b)
theorem absI_nat (z : Int) : absI z = (z.natAbs : Int) := by
  unfold absI
  split <;> omega
theorem ok_common (T : Tx K mg base) : FnOk P w K mg base CX0 1 T.a_common T.d_common ["one", "other"] (spR K 2 R_common) := by
  refine pure_ok T.F_common sc_common rfl (fun cdv A outer s H E hr => ?_)
  have nd := sc_common.nd
  have hu := hr.units
  refine ⟨_, (pss_cons (ps_par (i := 0) (j := 1) rfl nd rfl rfl (by decide) rfl rfl (pa_cons (pe_callB call_abs (by rfl) T.m_abs bt_abs (pa_cons (pv 0) pa_nil)) (pa_cons (pe_callB call_abs (by rfl) T.m_abs bt_abs (pa_cons (pv 1) pa_nil)) pa_nil)) (by rfl))
      (pss_cons (ps_while PassesOwn.never (pt_cmpR op_gt (pv 1) pe_int (nomark _)) (pss_one (ps_par (i := 0) (j := 1) rfl nd rfl rfl (by decide) rfl rfl (pa_cons (pv 1) (pa_cons (pe_op op_mod (pv 0) (pv 1)) pa_nil)) (by rfl))))
      (pss_one (ps_ret (pv 0))))), fun ds d h => ?_⟩
  obtain ⟨a, b, rfl, rfl⟩ := h
  change DS _ _ [B.im _, B.im _] _
  refine ds_seq ?_
  refine' ds_par 0 1 (dao ?_) ?_
  walk_at "de"
  refine ds_seq (ds_while (fun m Γ' => ∃ x y : Int, Γ' = [.im (.int x), .im (.int y)] ∧ 0 ≤ x ∧ 0 ≤ y ∧ m = y.toNat ∧ Int.gcd x y = Int.gcd a b) _ ⟨absI a, absI b, rfl, ?_, ?_, rfl, ?_⟩ ?_)
  · rw [absI_nat]
    omega
  · rw [absI_nat]
    omega
  · rw [absI_nat, absI_nat]
    unfold Int.gcd
    rw [Int.natAbs_natCast, Int.natAbs_natCast]
  · rintro m Γ' ⟨x, y, rfl, hx, hy, rfl, hg⟩
    refine ⟨decide (0 < y), dto ?_, fun hb => ?_, fun hb => ?_⟩
    · walk_at "de"
    · have h0 : 0 < y := of_decide_eq_true hb
      refine' ds_par 0 1 (dao ?_) ?_
      walk_at "de"
      · exact h0
      · have h1 := Int.emod_nonneg x (show y ≠ 0 by omega)
        have h2 := Int.emod_lt_of_pos x h0
        exact ⟨(x % y).toNat, by omega, y, x % y, rfl, hy, h1, rfl, by rw [gcd_turn x y, hg]⟩
    · have h0 : y = 0 := by
        have := of_decide_eq_false hb
        omega
      subst h0
      walk_at "ret"
      show D.int x = D.int _
      rw [← hg, Int.gcd_zero_right, Int.natAbs_of_nonneg hx]
theorem c_common {a b : Int} : R_common [.int a, .int b] (.int (Int.gcd a b)) := ⟨_, _, rfl, rfl⟩
theorem c_is_number {x : D} (h : tyN x ≠ "") : R_is_number [x] (.bl (isNum x)) := ⟨_, rfl, h, rfl⟩
local macro_rules | `(tactic| walk_at "d1") => `(tactic| first | exact c_common | with_reducible apply c_is_number)
/-! ### fractions, by any thing -/
def okT : D → Bool
  | .tup es => es.all ok0 && decide (es.length ≤ 1000)
  | x => ok0 x
def okL : D → Bool
  | .lst es => es.all ok0 && decide (es.length ≤ 1000)
  | x => ok0 x
theorem okT_ok {x : D} (h : okT x = true) : tyN x ≠ "" := by
  cases x <;> first | exact ne_ok h | exact ne_tup
theorem okL_ok {x : D} (h : okL x = true) : tyN x ≠ "" := by
  cases x <;> first | exact ne_ok h | exact ne_lst
def fracB : D → Bool
  | .tup [.int a, .int b] => decide (0 < b) && decide ((Int.gcd a b : Int) = 1)
  | _ => false
theorem tup2 (x : D) : (∃ a b, x = .tup [a, b]) ∨ (∃ es, x = .tup es ∧ es.length ≠ 2 ∧ fracB x = false) ∨ (isTup x = false ∧ fracB x = false) := by
  cases x with
  | tup es =>
    match es with
    | [] => exact .inr (.inl ⟨_, rfl, by decide, rfl⟩)
    | [a] => exact .inr (.inl ⟨_, rfl, by show 1 ≠ 2; decide, by cases a <;> rfl⟩)
    | [a, b] => exact .inl ⟨_, _, rfl⟩
    | a :: b :: c :: r => exact .inr (.inl ⟨_, rfl, by rw [List.length_cons, List.length_cons, List.length_cons]; omega, by cases a <;> first | rfl | (cases b <;> rfl)⟩)
  | _ => exact .inr (.inr ⟨rfl, rfl⟩)
theorem num_int {x : D} (h : isNum x = true) : ∃ i, x = .int i := by
  cases x <;> first | exact ⟨_, rfl⟩ | cases h
theorem frac_no {a b : D} (h : (isNum a && isNum b) = false) : fracB (.tup [a, b]) = false := by
  cases a <;> first | rfl | (cases b <;> first | rfl | cases h)
section
variable {Γ : List B} {t u : TT} {x y : Bool}
theorem dt_or1 (h : DT K t Γ true) : DT K (tOr t u) Γ true := dt_or (y := false) h fun z => by cases z
theorem dt_or2 (h : DT K t Γ false) (h2 : DT K u Γ y) : DT K (tOr t u) Γ y := dt_or h fun _ => h2
end
def R_is_fraction (ds : List D) (d : D) : Prop := ∃ x, ds = [x] ∧ okT x = true ∧ d = .bl (fracB x)
theorem ok_is_fraction (T : Tx K mg base) : FnOk P w K mg base CX0 2 T.a_is_fraction T.d_is_fraction ["thing"] (spR K 1 R_is_fraction) := by
  refine pure_ok T.F_is_fraction sc_is_fraction rfl (fun cdv A outer s H E hr => ?_)
  have nd := sc_is_fraction.nd
  have hu := hr.units
  refine ⟨_, (pss_cons (ps_if (PW.pt (pw_or (pt_not (pt_val (pe_callB (isiK K) (by rfl) T.m_isinstance bt_isinstance (pa_cons (pv 0) (pa_cons (pe_bltn (v := .ty "tuple") (by rfl) T.m_tuple bt_tuple rfl) pa_nil))))) (pw_or (pt_cmpR (neK K hu) (pe_callB (lenK K) (by rfl) T.m_len bt_len (pa_cons (pv 0) pa_nil)) pe_int (nomark _)) (pw_or (pt_not (pt_val (pe_call (ok_is_number T) (hr.mono (by decide)) (by rfl) T.g_is_number T.F_is_number.kp T.b_is_number .nil pass0 (pa_cons (pe_ix (ixK K) (pv 0) pe_int (fun _ _ => rfl)) pa_nil)))) (pw_or1 (pt_not (pt_val (pe_call (ok_is_number T) (hr.mono (by decide)) (by rfl) T.g_is_number T.F_is_number.kp T.b_is_number .nil pass0 (pa_cons (pe_ix (ixK K) (pv 0) pe_int (fun _ _ => rfl)) pa_nil))))))))) (pss_one (ps_ret pe_bl)) pss_nil)
      (pss_one (ps_ret (pe_and (pe_cmpR op_gt (pe_ix (ixK K) (pv 0) pe_int (fun _ _ => rfl)) pe_int (nomark _)) (pe_one (pe_cmpR (eqK K hu) (pe_call (ok_common T) (hr.mono (by decide)) (by rfl) T.g_common T.F_common.kp T.b_common .nil pass0 (pa_cons (pe_ix (ixK K) (pv 0) pe_int (fun _ _ => rfl)) (pa_cons (pe_ix (ixK K) (pv 0) pe_int (fun _ _ => rfl)) pa_nil))) pe_int (nomark _))))))), fun ds d h => ?_⟩
  obtain ⟨x, rfl, hx, rfl⟩ := h
  change DS _ _ [B.im _] _
  rcases tup2 x with ⟨a, b, rfl⟩ | ⟨es, rfl, hl, hf⟩ | ⟨ht, hf⟩
  · have ha : tyN a ≠ "" := ne_ok (by
      have h1 : ([a, b].all ok0 && decide ([a, b].length ≤ 1000)) = true := hx
      rw [Bool.and_eq_true, List.all_cons, Bool.and_eq_true] at h1
      exact h1.1.1)
    have hb : tyN b ≠ "" := ne_ok (by
      have h1 : ([a, b].all ok0 && decide ([a, b].length ≤ 1000)) = true := hx
      rw [Bool.and_eq_true, List.all_cons, List.all_cons, Bool.and_eq_true, Bool.and_eq_true] at h1
      exact h1.1.2.1)
    cases hn : (isNum a && isNum b) with
    | true =>
      rw [Bool.and_eq_true] at hn
      obtain ⟨i, rfl⟩ := num_int hn.1
      obtain ⟨j, rfl⟩ := num_int hn.2
      refine ds_seq (ds_ifF (dto ?_) (ds_next ?_))
      · refine' dt_is _ _
        rotate_left
        · walk_at "de"
        · rfl
      · walk_at "ret"
        rfl
    | false =>
      refine ds_seq (ds_ifT (dto ?_) ?_)
      · refine' dt_is _ _
        rotate_left
        · walk_at "de"
          · exact ha
          · exact hb
        · show (false || _) = true
          rw [Bool.and_eq_false_iff] at hn
          rcases hn with h | h
          · rw [h]
            rfl
          · rw [h]
            cases isNum a <;> rfl
      · rw [frac_no hn]
        walk_at "ret"
        rfl
  · refine ds_seq (ds_ifT (dto ?_) ?_)
    · refine dt_or2 ?_ (dt_or1 ?_)
      · refine' dt_is _ _
        rotate_left
        · walk_at "de"
        · rfl
      · refine' dt_is _ _
        rotate_left
        · walk_at "de"
        · rw [Bool.not_eq_true', decide_eq_false_iff_not]
          omega
    · rw [hf]
      walk_at "ret"
      rfl
  · refine ds_seq (ds_ifT (dto ?_) ?_)
    · refine dt_or1 ?_
      refine' dt_is _ _
      rotate_left
      · walk_at "de"
        exact okT_ok hx
      · rw [ht]
        rfl
    · rw [hf]
      walk_at "ret"
      rfl
theorem c_is_fraction {x : D} (h : okT x = true) : R_is_fraction [x] (.bl (fracB x)) := ⟨_, rfl, h, rfl⟩
local macro_rules | `(tactic| walk_at "d1") => `(tactic| with_reducible apply c_is_fraction)
/-! ### numbers -/
def numsB : D → Bool
  | .lst es => es.all isNum
  | _ => false
theorem lst_or (x : D) : (∃ es, x = .lst es) ∨ (isList x = false ∧ numsB x = false) := by
  cases x with
  | lst es => exact .inl ⟨_, rfl⟩
  | _ => exact .inr ⟨rfl, rfl⟩
theorem okL_len {es : List D} (h : okL (.lst es) = true) : es.length ≤ 1000 := by
  have h1 : (es.all ok0 && decide (es.length ≤ 1000)) = true := h
  rw [Bool.and_eq_true] at h1
  exact of_decide_eq_true h1.2
theorem okL_at {es : List D} (h : okL (.lst es) = true) {x : D} (m : x ∈ es) : tyN x ≠ "" := by
  have h1 : (es.all ok0 && decide (es.length ≤ 1000)) = true := h
  rw [Bool.and_eq_true] at h1
  exact ne_ok (List.all_eq_true.mp h1.1 x m)
theorem all_map_id {α : Type} (f : α → Bool) (xs : List α) : (xs.map f).all id = xs.all f := by
  rw [List.all_map]
  rfl
/-- a list's things, as a list -/
theorem di_any {te : TE} {Γ : List B} {es : List D} (h : DE K te Γ (.lst es)) : DI K (iList K te) Γ (es.map fun x => x) := by
  rw [List.map_id']
  exact di_list h
def R_are_numbers (ds : List D) (d : D) : Prop := ∃ x, ds = [x] ∧ okL x = true ∧ d = .bl (numsB x)
theorem ok_are_numbers (T : Tx K mg base) : FnOk P w K mg base CX0 2 T.a_are_numbers T.d_are_numbers ["thing"] (spR K 1 R_are_numbers) := by
  refine pure_ok T.F_are_numbers sc_are_numbers rfl (fun cdv A outer s H E hr => ?_)
  have nd := sc_are_numbers.nd
  have hu := hr.units
  refine ⟨_, (pss_one (ps_ret (pe_and (pe_callB (isiK K) (by rfl) T.m_isinstance bt_isinstance (pa_cons (pv 0) (pa_cons (pe_bltn (v := .ty "list") (by rfl) T.m_list bt_list rfl) pa_nil))) (pe_one (pe_callB (allK K rfl) (by rfl) T.m_all bt_all (pa_cons (pe_lc (own := [("one", 1)]) (g := (gName 1)) (tt := tYes) rfl nd (pi_listK K (pv 0)) (blkOk_by (own := [("one", 1)]) (N := N_are_numbers) (sc := defScope s_are_numbers) (by decide +kernel)) (fun _ _ _ _ _ => (pg_name (i := 1) nd rfl (by first | exact Or.inl rfl | exact Or.inr rfl))) (fun _ _ _ _ _ => pts_nil) (fun _ _ _ _ _ => (pe_call (ok_is_number T) (hr.mono (by decide)) (by rfl) T.g_is_number T.F_is_number.kp T.b_is_number .nil pass0 (pa_cons (pv 1) pa_nil)))) pa_nil)))))), fun ds d h => ?_⟩
  obtain ⟨x, rfl, hx, rfl⟩ := h
  change DS _ _ [B.im _, B.no] _
  rcases lst_or x with ⟨es, rfl⟩ | ⟨hl, hn⟩
  · refine ds_ret (d := .bl (numsB (.lst es))) (deo ?_) rfl
    refine' de_is (de_andV (x := true) (y := es.all isNum) ?_ fun _ => ?_) rfl
    · refine' de_is _ _
      rotate_left
      · walk_at "de"
      · rfl
    · refine' de_is (de_cb (da_cons (de_lcB isNum (enc := fun x => x) (di_any (de_var rfl)) (by have := okL_len hx; omega) fun x m => ?_) da_nil) rc_all) _
      · refine ⟨_, dg_name _ (by decide), ?_⟩
        walk_at "de"
        exact okL_at hx m
      · rw [all_map_id]
  · refine ds_ret (d := .bl (numsB x)) (deo ?_) rfl
    refine' de_is (de_andV (x := false) (y := false) ?_ fun z => by cases z) (by rw [hn]; rfl)
    refine' de_is _ _
    rotate_left
    · walk_at "de"
      exact okL_ok hx
    · rw [hl]
theorem c_are_numbers {x : D} (h : okL x = true) : R_are_numbers [x] (.bl (numsB x)) := ⟨_, rfl, h, rfl⟩
local macro_rules | `(tactic| walk_at "d1") => `(tactic| with_reducible apply c_are_numbers)
end
end U

namespace U
open PySem PySem.Spec PyProof.Rows L2 DL
section
variable {P : Program} {w : World} {K : PySem.W.Frag} {mg : Str → Option Value} {base : Heap}
local macro_rules | `(tactic| walk_at "lk") => `(tactic| first | with_reducible exact look_hit | ((with_reducible refine look_miss (by decide +kernel) ?_); walk_at "lk") | with_reducible exact look_nil)
local macro_rules | `(tactic| walk_at "fz") => `(tactic| simp only [fz, fzB, chF, Ch.d, List.map, List.set])
local macro_rules | `(tactic| walk_at "ob") => `(tactic| first
  | ((with_reducible show look _ _ = _); walk_at "lk")
  | with_reducible apply de_callO | ((with_reducible show B.d _ = _); rfl) | ((with_reducible apply de_either1); (with_reducible apply de_meth); exact de_var rfl) | ((with_reducible apply de_either2); (with_reducible apply de_meth); exact de_var rfl)
  | with_reducible exact de_cls | with_reducible apply de_fld | with_reducible apply rc_isC | with_reducible apply de_meth
  | walk_at "cl")
local macro_rules | `(tactic| walk_at "r2") => `(tactic| (fail_if_success (with_reducible show R2D _ _ D.non _ _)); (fail_if_success (with_reducible show R2D _ _ _ D.non _)); first
  | exact r2_add | exact r2_sub | exact r2_lt | exact r2_le | exact r2_gt | exact r2_ge
  | with_reducible exact r2_p30 | with_reducible exact r2_p9
  | with_reducible apply r2_mod | with_reducible apply r2_fdiv | with_reducible apply r2_mul | with_reducible apply r2_pow | with_reducible apply r2_cat | with_reducible apply r2_rep1
  | exact r2_ixT rfl | exact r2_ixL rfl | with_reducible apply r2_ixN | with_reducible apply r2_ixI
  | exact r2_eqI | exact r2_neI | exact r2_eqB | exact r2_neB | exact r2_eqL | exact r2_neL | exact r2_isB | exact r2_notB)
local macro_rules | `(tactic| walk_at "rc") => `(tactic| (fail_if_success (with_reducible show RCD _ _ [D.non] _)); (fail_if_success (with_reducible show RCD _ _ [D.non, _] _)); (fail_if_success (with_reducible show RCD _ _ [_, D.non] _)); first
  | with_reducible exact rc_srt
  | exact rc_abs | exact rc_max2 | exact rc_min2 | exact rc_sum | exact rc_all | exact rc_any | exact rc_lenL | exact rc_lenT | exact rc_listL | exact rc_listT
  | with_reducible apply rc_int | with_reducible apply rc_bool | with_reducible apply rc_list | with_reducible apply rc_tuple)
local macro_rules | `(tactic| walk_at "d1") => `(tactic| first
  | with_reducible exact de_int | with_reducible exact de_bl | with_reducible exact de_non | exact de_var rfl
  | with_reducible exact da_nil | with_reducible apply da_cons
  | with_reducible apply de_op | with_reducible apply de_un | with_reducible apply de_cb | with_reducible apply de_call
  | with_reducible apply de_tup | with_reducible apply de_lst
  | with_reducible apply de_andV | with_reducible apply de_orV | with_reducible apply de_notV | ((with_reducible show _ = true → _); intro _) | ((with_reducible show _ = false → _); intro _)
  | with_reducible apply dt_and | with_reducible apply dt_or | with_reducible apply dt_not | with_reducible apply dt_test | with_reducible apply dt_B
  | with_reducible apply de_slice | with_reducible exact do_none | with_reducible apply do_some | with_reducible apply de_rev
  | with_reducible apply de_maxD | with_reducible apply de_chain3 | with_reducible apply de_chain
  | walk_at "r2" | walk_at "rc" | walk_at "ob"
  | ((with_reducible show R1D _ _ (D.int _) _); exact r1_neg)
  | with_reducible exact de_ty
  | with_reducible exact ne_int | with_reducible exact ne_lst | with_reducible exact ne_tup | with_reducible exact ne_bl
  | ((with_reducible show List.length _ = _); rfl) | ((with_reducible show List.length _ + 1 = _); rfl)
  | (with_reducible show List.length _ ≤ 1000); exact Nat.le_of_ble_eq_true rfl)
local macro_rules | `(tactic| walk_at "dg") => `(tactic| repeat' (first | exact dg_name _ trivial | exact dg_name _ (by decide) | with_reducible exact dg_nil | with_reducible apply dg_cons | with_reducible apply dg_tup | ((with_reducible show List.length _ = _); rfl)))
local macro_rules | `(tactic| walk_at "de") => `(tactic| repeat' walk_at "d1")
local macro_rules | `(tactic| walk_at "ret") => `(tactic| (apply ds_ret; apply deo; walk_at "de"))
local macro_rules | `(tactic| walk_at "asg") => `(tactic| (apply ds_seq; apply ds_asg; apply deo; walk_at "de"))
local macro_rules | `(tactic| walk_at "drop") => `(tactic| (apply ds_seq; apply ds_drop; apply deo; walk_at "de"))
local macro_rules | `(tactic| walk_at "par") => `(tactic| (apply ds_seq; apply ds_par; apply dao; walk_at "de"))
local macro_rules | `(tactic| walk_at "parG") => `(tactic| (apply ds_seq; apply ds_asgG; apply deo; walk_at "de"; walk_at "dg"))
local macro_rules | `(tactic| walk_at "lc") => `(tactic| first | with_reducible exact lookC_hit | with_reducible exact lookC_nil | ((with_reducible refine lookC_miss (by decide +kernel) ?_); walk_at "lc"))
local macro_rules | `(tactic| walk_at "pc") => `(tactic| first | with_reducible exact putC_hit | with_reducible exact putC_nil | ((with_reducible apply putC_miss); (decide +kernel); (walk_at "pc")))
local macro_rules | `(tactic| walk_at "d1") => `(tactic| first | exact c_common | with_reducible apply c_is_number)
local macro_rules | `(tactic| walk_at "d1") => `(tactic| with_reducible apply c_is_fraction)
local macro_rules | `(tactic| walk_at "d1") => `(tactic| with_reducible apply c_are_numbers)
/-! ## the checks -/
section
variable {E : XK} {r : Option Addr} {t u v : TS} {Γ : List B} {P : Post} {C : Addr} {te : TE} {c : TT}
theorem dse_pass (h : DE K te Γ .non) (h2 : DSE K E r u Γ P) : DSE K E r (tSeq (tDrop te) u) Γ P := dse_seq (dse_of (ds_drop (deo h) h2))
theorem dse_stop (h : DER K (fun _ => E) te Γ C) : DSE K E (some C) (tSeq (tDrop te) u) Γ P := dse_seq (dse_drop h)
theorem dse_yes (h : DT K c Γ true) (h1 : DSE K E r t Γ { P with nx := fun Γ' => DSE K E r u Γ' P }) : DSE K E r (tSeq (tIfS c t v) u) Γ P := dse_seq (dse_if (dto h) (fun _ => h1) fun z => by cases z)
theorem dse_no (h : DT K c Γ false) (h2 : DSE K E r u Γ P) : DSE K E r (tSeq (tIfS c t tNext) u) Γ P := dse_seq (dse_if (dto h) (fun z => by cases z) fun _ => dse_next h2)
end
def R_check_numbers (e : Err4) (ds : List D) (r : Option Addr) : Prop := ∃ x, ds = [x] ∧ okL x = true ∧ r = if numsB x = true then none else some e.bn
theorem ok_check_numbers (T : Tx K mg base) : FnOk P w K mg base (L2N.CX P w) 3 T.a_check_numbers T.d_check_numbers ["numbers"] (spX K 1 (R_check_numbers T.err)) := by
  refine pure_okX T.F_check_numbers sc_check_numbers rfl (fun cdv A outer s H E hr => ?_)
  have nd := sc_check_numbers.nd
  have hu := hr.units
  refine ⟨_, (pss_one (ps_if (pt_not (pt_val (pe_call (ok_are_numbers T) (hr.mono (by decide)) (by rfl) T.g_are_numbers T.F_are_numbers.kp T.b_are_numbers .nil pass0 (pa_cons (pv 0) pa_nil)))) (pss_one (ps_raiseE rfl (L2N.takes_of rfl rfl rfl rfl) T.g_BadNumbers T.e_BadNumbers (by exact rfl))) pss_nil)), fun ds r h => ?_⟩
  obtain ⟨x, rfl, hx, rfl⟩ := h
  change DSE _ _ _ _ [B.im _] _
  cases hn : numsB x with
  | true =>
    rw [if_pos rfl]
    refine dse_if (b := false) (dto ?_) (fun z => by cases z) fun _ => dse_next rfl
    refine' dt_is _ _
    rotate_left
    · walk_at "de"
      exact hx
    · rw [hn]
      rfl
  | false =>
    rw [if_neg Bool.false_ne_true]
    refine dse_if (b := true) (dto ?_) (fun _ => dse_raise) fun z => by cases z
    refine' dt_is _ _
    rotate_left
    · walk_at "de"
      exact hx
    · rw [hn]
      rfl
def lenD : D → Nat
  | .lst es => es.length
  | _ => 0
def rowB (n : Nat) (x : D) : Bool := numsB x && decide (lenD x = n)
def posB : D → Bool
  | .lst es => es.all fun d => match d with
    | .int i => decide (0 < i)
    | _ => false
  | _ => false
def wtsB (n : Nat) (x : D) : Bool := rowB n x && posB x
theorem nums_lst {x : D} (h : numsB x = true) : ∃ ws : List Int, x = .lst (dI ws) := by
  cases x with
  | lst es =>
    have h1 : es.all isNum = true := h
    have : ∃ ws : List Int, es = dI ws := by
      induction es with
      | nil => exact ⟨[], rfl⟩
      | cons a r ih =>
        rw [List.all_cons, Bool.and_eq_true] at h1
        obtain ⟨i, rfl⟩ := num_int h1.1
        obtain ⟨ws, rfl⟩ := ih h1.2 h1.2
        exact ⟨i :: ws, rfl⟩
    obtain ⟨ws, rfl⟩ := this
    exact ⟨ws, rfl⟩
  | _ => cases h
theorem len_ne (a b : Nat) : (!decide ((a : Int) = (b : Int))) = !decide (a = b) := by
  by_cases h : a = b
  · rw [h, decide_eq_true rfl, decide_eq_true rfl]
  · rw [decide_eq_false h, decide_eq_false (by omega)]
def R_check_row (e : Err4) (ds : List D) (r : Option Addr) : Prop := ∃ (ns : List Int) (x : D), ds = [.lst (dI ns), x] ∧ okL x = true ∧ r = if rowB ns.length x = true then none else some e.br
theorem ok_check_row (T : Tx K mg base) : FnOk P w K mg base (L2N.CX P w) 3 T.a_check_row T.d_check_row ["numbers", "row"] (spX K 2 (R_check_row T.err)) := by
  refine pure_okX T.F_check_row sc_check_row rfl (fun cdv A outer s H E hr => ?_)
  have nd := sc_check_row.nd
  have hu := hr.units
  refine ⟨_, (pss_one (ps_if (PW.pt (pw_or (pt_not (pt_val (pe_call (ok_are_numbers T) (hr.mono (by decide)) (by rfl) T.g_are_numbers T.F_are_numbers.kp T.b_are_numbers .nil pass0 (pa_cons (pv 1) pa_nil)))) (pw_or1 (pt_cmpR (neK K hu) (pe_callB (lenK K) (by rfl) T.m_len bt_len (pa_cons (pv 1) pa_nil)) (pe_callB (lenK K) (by rfl) T.m_len bt_len (pa_cons (pv 0) pa_nil)) (nomark _))))) (pss_one (ps_raiseE rfl (L2N.takes_of rfl rfl rfl rfl) T.g_BadRow T.e_BadRow (by exact rfl))) pss_nil)), fun ds r h => ?_⟩
  obtain ⟨ns, x, rfl, hx, rfl⟩ := h
  change DSE _ _ _ _ [B.im _, B.im _] _
  cases hn : numsB x with
  | false =>
    rw [if_neg (by rw [rowB, hn]; exact Bool.false_ne_true)]
    refine dse_if (b := true) (dto (dt_or1 ?_)) (fun _ => dse_raise) fun z => by cases z
    refine' dt_is _ _
    rotate_left
    · walk_at "de"
      exact hx
    · rw [hn]
      rfl
  | true =>
    obtain ⟨ws, rfl⟩ := nums_lst hn
    have hw : rowB ns.length (.lst (dI ws)) = decide (ws.length = ns.length) := by
      unfold rowB
      rw [hn, Bool.true_and]
      show decide ((dI ws).length = ns.length) = _
      rw [List.length_map]
    rw [hw]
    have q : ∀ c Γ, DTo K c Γ (!decide (ws.length = ns.length)) → True := fun _ _ _ => trivial
    refine dse_if (b := !decide (ws.length = ns.length)) (dto (dt_or2 ?_ ?_)) (fun hb => ?_) fun hb => ?_
    · refine' dt_is _ _
      rotate_left
      · walk_at "de"
        exact hx
      · rw [hn]
        rfl
    · refine' dt_is _ _
      rotate_left
      · walk_at "de"
      · rw [← len_ne, List.length_map, List.length_map]
    · rw [Bool.not_eq_true'] at hb
      rw [hb, if_neg Bool.false_ne_true]
      exact dse_raise
    · rw [Bool.not_eq_false'] at hb
      rw [hb, if_pos rfl]
      exact dse_next rfl
theorem pos_dI (ws : List Int) : posB (.lst (dI ws)) = ws.all fun w => decide (0 < w) := by
  show (dI ws).all _ = _
  rw [List.all_map]
  rfl
def R_check_weights (e : Err4) (ds : List D) (r : Option Addr) : Prop := ∃ (ns : List Int) (x : D), ds = [.lst (dI ns), x] ∧ okL x = true ∧ wtsB ns.length x = false ∧ r = some e.bw
theorem ok_check_weights (T : Tx K mg base) : FnOk P w K mg base (L2N.CX P w) 3 T.a_check_weights T.d_check_weights ["numbers", "weights"] (spX K 2 (R_check_weights T.err)) := by
  refine pure_okX T.F_check_weights sc_check_weights rfl (fun cdv A outer s H E hr => ?_)
  have nd := sc_check_weights.nd
  have hu := hr.units
  refine ⟨_, (pss_one (ps_if (PW.pt (pw_or (pt_not (pt_val (pe_call (ok_are_numbers T) (hr.mono (by decide)) (by rfl) T.g_are_numbers T.F_are_numbers.kp T.b_are_numbers .nil pass0 (pa_cons (pv 1) pa_nil)))) (pw_or (pt_cmpR (neK K hu) (pe_callB (lenK K) (by rfl) T.m_len bt_len (pa_cons (pv 1) pa_nil)) (pe_callB (lenK K) (by rfl) T.m_len bt_len (pa_cons (pv 0) pa_nil)) (nomark _)) (pw_or1 (pt_not (pt_val (pe_callB (allK K rfl) (by rfl) T.m_all bt_all (pa_cons (pe_lc (own := [("weight", 2)]) (g := (gName 2)) (tt := tYes) rfl nd (pi_listK K (pv 1)) (blkOk_by (own := [("weight", 2)]) (N := N_check_weights) (sc := defScope s_check_weights) (by decide +kernel)) (fun _ _ _ _ _ => (pg_name (i := 2) nd rfl (by first | exact Or.inl rfl | exact Or.inr rfl))) (fun _ _ _ _ _ => pts_nil) (fun _ _ _ _ _ => (pe_cmpR op_gt (pv 2) pe_int (nomark _)))) pa_nil)))))))) (pss_one (ps_raiseE rfl (L2N.takes_of rfl rfl rfl rfl) T.g_BadWeights T.e_BadWeights (by exact rfl))) pss_nil)), fun ds r h => ?_⟩
  obtain ⟨ns, x, rfl, hx, hf, rfl⟩ := h
  change DSE _ _ _ _ [B.im _, B.im _, B.no] _
  refine dse_if (b := true) (dto ?_) (fun _ => dse_raise) fun z => by cases z
  cases hn : numsB x with
  | false =>
    refine dt_or1 ?_
    refine' dt_is _ _
    rotate_left
    · walk_at "de"
      exact hx
    · rw [hn]
      rfl
  | true =>
    obtain ⟨ws, rfl⟩ := nums_lst hn
    refine dt_or2 ?_ ?_
    · refine' dt_is _ _
      rotate_left
      · walk_at "de"
        exact hx
      · rw [hn]
        rfl
    cases hl : decide (ws.length = ns.length) with
    | false =>
      refine dt_or1 ?_
      refine' dt_is _ _
      rotate_left
      · walk_at "de"
      · rw [List.length_map, List.length_map, len_ne, hl]
        rfl
    | true =>
      refine dt_or2 ?_ ?_
      · refine' dt_is _ _
        rotate_left
        · walk_at "de"
        · rw [List.length_map, List.length_map, len_ne, hl]
          rfl
      · have hp : (ws.all fun w => decide (0 < w)) = false := by
          rw [← pos_dI]
          unfold wtsB rowB at hf
          rw [hn, show decide (lenD (.lst (dI ws)) = ns.length) = true from by
            show decide ((dI ws).length = ns.length) = true
            rw [List.length_map]
            exact hl] at hf
          exact hf
        refine dt_is (dt_not (dt_test (de_cb (da_cons (de_lcB (fun w : Int => decide (0 < w)) (di_list (de_var rfl)) (by
          have := okL_len hx
          rw [List.length_map] at this
          omega) fun x m => ?_) da_nil) rc_all))) ?_
        · refine ⟨_, dg_name _ (by decide), ?_⟩
          walk_at "de"
        · rw [all_map_id, hp]
          rfl
/-! ## what is refused, and by which class -/
def BadN (e : Err4) (x : D) (r : Option Addr) : Prop := okL x = true ∧ numsB x = false ∧ r = some e.bn
def BadR (e : Err4) (n : Nat) (x : D) (r : Option Addr) : Prop := okL x = true ∧ rowB n x = false ∧ r = some e.br
def BadW (e : Err4) (n : Nat) (x : D) (r : Option Addr) : Prop := okL x = true ∧ wtsB n x = false ∧ r = some e.bw
theorem all_dI : ∀ ns : List Int, (dI ns).all isNum = true ∧ (dI ns).all ok0 = true
  | [] => ⟨rfl, rfl⟩
  | n :: r => all_dI r
theorem nums_dI (ns : List Int) : numsB (.lst (dI ns)) = true := (all_dI ns).1
theorem okL_dI {ns : List Int} (h : ns.length ≤ 1000) : okL (.lst (dI ns)) = true := by
  show ((dI ns).all ok0 && decide ((dI ns).length ≤ 1000)) = true
  rw [(all_dI ns).2, List.length_map, decide_eq_true h]
  rfl
theorem no_numbers {e : Err4} {x : D} {C : Addr} (h : BadN e x (some C)) : R_check_numbers e [x] (some C) := ⟨x, rfl, h.1, by rw [h.2.1, if_neg Bool.false_ne_true]; exact h.2.2⟩
theorem the_numbers {e : Err4} {ns : List Int} (h : ns.length ≤ 1000) : R_check_numbers e [.lst (dI ns)] none := ⟨_, rfl, okL_dI h, by rw [nums_dI, if_pos rfl]⟩
theorem no_row {e : Err4} {ns : List Int} {x : D} {C : Addr} (h : BadR e ns.length x (some C)) : R_check_row e [.lst (dI ns), x] (some C) := ⟨ns, x, rfl, h.1, by rw [h.2.1, if_neg Bool.false_ne_true]; exact h.2.2⟩
theorem the_row {e : Err4} {ns : List Int} {x : D} (h : okL x = true) (h2 : rowB ns.length x = true) : R_check_row e [.lst (dI ns), x] none := ⟨ns, x, rfl, h, by rw [h2, if_pos rfl]⟩
theorem no_weights {e : Err4} {ns : List Int} {x : D} {C : Addr} (h : BadW e ns.length x (some C)) : R_check_weights e [.lst (dI ns), x] (some C) := ⟨ns, x, rfl, h.1, h.2.1, h.2.2⟩
end
end U

namespace U
open PySem PySem.Spec PyProof.Rows L2 DL
section
variable {P : Program} {w : World} {K : PySem.W.Frag} {mg : Str → Option Value} {base : Heap}
local macro_rules | `(tactic| walk_at "lk") => `(tactic| first | with_reducible exact look_hit | ((with_reducible refine look_miss (by decide +kernel) ?_); walk_at "lk") | with_reducible exact look_nil)
local macro_rules | `(tactic| walk_at "fz") => `(tactic| simp only [fz, fzB, chF, Ch.d, List.map, List.set])
local macro_rules | `(tactic| walk_at "ob") => `(tactic| first
  | ((with_reducible show look _ _ = _); walk_at "lk")
  | with_reducible apply de_callO | ((with_reducible show B.d _ = _); rfl) | ((with_reducible apply de_either1); (with_reducible apply de_meth); exact de_var rfl) | ((with_reducible apply de_either2); (with_reducible apply de_meth); exact de_var rfl)
  | with_reducible exact de_cls | with_reducible apply de_fld | with_reducible apply rc_isC | with_reducible apply de_meth
  | walk_at "cl")
local macro_rules | `(tactic| walk_at "r2") => `(tactic| (fail_if_success (with_reducible show R2D _ _ D.non _ _)); (fail_if_success (with_reducible show R2D _ _ _ D.non _)); first
  | exact r2_add | exact r2_sub | exact r2_lt | exact r2_le | exact r2_gt | exact r2_ge
  | with_reducible exact r2_p30 | with_reducible exact r2_p9
  | with_reducible apply r2_mod | with_reducible apply r2_fdiv | with_reducible apply r2_mul | with_reducible apply r2_pow | with_reducible apply r2_cat | with_reducible apply r2_rep1
  | exact r2_ixT rfl | exact r2_ixL rfl | with_reducible apply r2_ixN | with_reducible apply r2_ixI
  | exact r2_eqI | exact r2_neI | exact r2_eqB | exact r2_neB | exact r2_eqL | exact r2_neL | exact r2_isB | exact r2_notB)
local macro_rules | `(tactic| walk_at "rc") => `(tactic| (fail_if_success (with_reducible show RCD _ _ [D.non] _)); (fail_if_success (with_reducible show RCD _ _ [D.non, _] _)); (fail_if_success (with_reducible show RCD _ _ [_, D.non] _)); first
  | with_reducible exact rc_srt
  | exact rc_abs | exact rc_max2 | exact rc_min2 | exact rc_sum | exact rc_all | exact rc_any | exact rc_lenL | exact rc_lenT | exact rc_listL | exact rc_listT
  | with_reducible apply rc_int | with_reducible apply rc_bool | with_reducible apply rc_list | with_reducible apply rc_tuple)
local macro_rules | `(tactic| walk_at "d1") => `(tactic| first
  | with_reducible exact de_int | with_reducible exact de_bl | with_reducible exact de_non | exact de_var rfl
  | with_reducible exact da_nil | with_reducible apply da_cons
  | with_reducible apply de_op | with_reducible apply de_un | with_reducible apply de_cb | with_reducible apply de_call
  | with_reducible apply de_tup | with_reducible apply de_lst
  | with_reducible apply de_andV | with_reducible apply de_orV | with_reducible apply de_notV | ((with_reducible show _ = true → _); intro _) | ((with_reducible show _ = false → _); intro _)
  | with_reducible apply dt_and | with_reducible apply dt_or | with_reducible apply dt_not | with_reducible apply dt_test | with_reducible apply dt_B
  | with_reducible apply de_slice | with_reducible exact do_none | with_reducible apply do_some | with_reducible apply de_rev
  | with_reducible apply de_maxD | with_reducible apply de_chain3 | with_reducible apply de_chain
  | walk_at "r2" | walk_at "rc" | walk_at "ob"
  | ((with_reducible show R1D _ _ (D.int _) _); exact r1_neg)
  | with_reducible exact de_ty
  | with_reducible exact ne_int | with_reducible exact ne_lst | with_reducible exact ne_tup | with_reducible exact ne_bl
  | ((with_reducible show List.length _ = _); rfl) | ((with_reducible show List.length _ + 1 = _); rfl)
  | (with_reducible show List.length _ ≤ 1000); exact Nat.le_of_ble_eq_true rfl)
local macro_rules | `(tactic| walk_at "dg") => `(tactic| repeat' (first | exact dg_name _ trivial | exact dg_name _ (by decide) | with_reducible exact dg_nil | with_reducible apply dg_cons | with_reducible apply dg_tup | ((with_reducible show List.length _ = _); rfl)))
local macro_rules | `(tactic| walk_at "de") => `(tactic| repeat' walk_at "d1")
local macro_rules | `(tactic| walk_at "ret") => `(tactic| (apply ds_ret; apply deo; walk_at "de"))
local macro_rules | `(tactic| walk_at "asg") => `(tactic| (apply ds_seq; apply ds_asg; apply deo; walk_at "de"))
local macro_rules | `(tactic| walk_at "drop") => `(tactic| (apply ds_seq; apply ds_drop; apply deo; walk_at "de"))
local macro_rules | `(tactic| walk_at "par") => `(tactic| (apply ds_seq; apply ds_par; apply dao; walk_at "de"))
local macro_rules | `(tactic| walk_at "parG") => `(tactic| (apply ds_seq; apply ds_asgG; apply deo; walk_at "de"; walk_at "dg"))
local macro_rules | `(tactic| walk_at "lc") => `(tactic| first | with_reducible exact lookC_hit | with_reducible exact lookC_nil | ((with_reducible refine lookC_miss (by decide +kernel) ?_); walk_at "lc"))
local macro_rules | `(tactic| walk_at "pc") => `(tactic| first | with_reducible exact putC_hit | with_reducible exact putC_nil | ((with_reducible apply putC_miss); (decide +kernel); (walk_at "pc")))
local macro_rules | `(tactic| walk_at "d1") => `(tactic| first | exact c_common | with_reducible apply c_is_number)
local macro_rules | `(tactic| walk_at "d1") => `(tactic| with_reducible apply c_is_fraction)
local macro_rules | `(tactic| walk_at "d1") => `(tactic| with_reducible apply c_are_numbers)
def R_evened (e : Err4) (ds : List D) (r : Option Addr) : Prop := ∃ x, ds = [x] ∧ BadN e x r
theorem ok_evened (T : Tx K mg base) : FnOk P w K mg base (L2N.CX P w) 4 T.a_evened T.d_evened ["numbers"] (spX K 1 (R_evened T.err)) := by
  refine pure_okX T.F_evened sc_evened rfl (fun cdv A outer s H E hr => ?_)
  have nd := sc_evened.nd
  have hu := hr.units
  refine ⟨_, (pss_cons (ps_expr (pe_call (ok_check_numbers T) (hr.mono (by decide)) (by rfl) T.g_check_numbers T.F_check_numbers.kp T.b_check_numbers .nil (passesN (L2N.takes_of rfl rfl rfl rfl) fun _ _ _ _ h => h) (pa_cons (pv 0) pa_nil)))
      (pss_cons ps_never
      (pss_cons ps_never
      (pss_cons ps_never
      (pss_one ps_never))))), fun ds r h => ?_⟩
  obtain ⟨x, rfl, h1, h2, rfl⟩ := h
  change DSE _ _ _ _ [B.im _, B.no, B.no, B.no, B.no] _
  exact dse_stop (der_call (da_cons (de_var rfl) da_nil) (no_numbers ⟨h1, h2, rfl⟩) rfl)
def R_upper (e : Err4) (ds : List D) (r : Option Addr) : Prop := ∃ x, ds = [x] ∧ BadN e x r
theorem ok_upper (T : Tx K mg base) : FnOk P w K mg base (L2N.CX P w) 4 T.a_upper T.d_upper ["numbers"] (spX K 1 (R_upper T.err)) := by
  refine pure_okX T.F_upper sc_upper rfl (fun cdv A outer s H E hr => ?_)
  have nd := sc_upper.nd
  have hu := hr.units
  refine ⟨_, (pss_cons (ps_expr (pe_call (ok_check_numbers T) (hr.mono (by decide)) (by rfl) T.g_check_numbers T.F_check_numbers.kp T.b_check_numbers .nil (passesN (L2N.takes_of rfl rfl rfl rfl) fun _ _ _ _ h => h) (pa_cons (pv 0) pa_nil)))
      (pss_one ps_never)), fun ds r h => ?_⟩
  obtain ⟨x, rfl, h1, h2, rfl⟩ := h
  change DSE _ _ _ _ [B.im _] _
  exact dse_stop (der_call (da_cons (de_var rfl) da_nil) (no_numbers ⟨h1, h2, rfl⟩) rfl)
def R_lower (e : Err4) (ds : List D) (r : Option Addr) : Prop := ∃ x, ds = [x] ∧ BadN e x r
theorem ok_lower (T : Tx K mg base) : FnOk P w K mg base (L2N.CX P w) 4 T.a_lower T.d_lower ["numbers"] (spX K 1 (R_lower T.err)) := by
  refine pure_okX T.F_lower sc_lower rfl (fun cdv A outer s H E hr => ?_)
  have nd := sc_lower.nd
  have hu := hr.units
  refine ⟨_, (pss_cons (ps_expr (pe_call (ok_check_numbers T) (hr.mono (by decide)) (by rfl) T.g_check_numbers T.F_check_numbers.kp T.b_check_numbers .nil (passesN (L2N.takes_of rfl rfl rfl rfl) fun _ _ _ _ h => h) (pa_cons (pv 0) pa_nil)))
      (pss_one ps_never)), fun ds r h => ?_⟩
  obtain ⟨x, rfl, h1, h2, rfl⟩ := h
  change DSE _ _ _ _ [B.im _] _
  exact dse_stop (der_call (da_cons (de_var rfl) da_nil) (no_numbers ⟨h1, h2, rfl⟩) rfl)
def R_summed (e : Err4) (ds : List D) (r : Option Addr) : Prop := ∃ x y, ds = [x, y] ∧ (BadN e x r ∨ ∃ ns : List Int, x = .lst (dI ns) ∧ ns.length ≤ 1000 ∧ BadW e ns.length y r)
theorem ok_summed (T : Tx K mg base) : FnOk P w K mg base (L2N.CX P w) 4 T.a_summed T.d_summed ["numbers", "weights"] (spX K 2 (R_summed T.err)) := by
  refine pure_okX T.F_summed sc_summed rfl (fun cdv A outer s H E hr => ?_)
  have nd := sc_summed.nd
  have hu := hr.units
  refine ⟨_, (pss_cons (ps_expr (pe_call (ok_check_numbers T) (hr.mono (by decide)) (by rfl) T.g_check_numbers T.F_check_numbers.kp T.b_check_numbers .nil (passesN (L2N.takes_of rfl rfl rfl rfl) fun _ _ _ _ h => h) (pa_cons (pv 0) pa_nil)))
      (pss_cons (ps_expr (pe_call (ok_check_weights T) (hr.mono (by decide)) (by rfl) T.g_check_weights T.F_check_weights.kp T.b_check_weights .nil (passesN (L2N.takes_of rfl rfl rfl rfl) fun _ _ _ _ h => h) (pa_cons (pv 0) (pa_cons (pv 1) pa_nil))))
      (pss_cons ps_never
      (pss_cons ps_never
      (pss_cons ps_never
      (pss_one ps_never)))))), fun ds r h => ?_⟩
  obtain ⟨x, y, rfl, ⟨h1, h2, rfl⟩ | ⟨ns, rfl, hl, h1, h2, rfl⟩⟩ := h
  · change DSE _ _ _ _ [B.im _, B.im _, B.no, B.no, B.no, B.no] _
    exact dse_stop (der_call (da_cons (de_var rfl) da_nil) (no_numbers ⟨h1, h2, rfl⟩) rfl)
  · change DSE _ _ _ _ [B.im _, B.im _, B.no, B.no, B.no, B.no] _
    refine dse_pass (de_callN (da_cons (de_var rfl) da_nil) (the_numbers hl) rfl) ?_
    exact dse_stop (der_call (da_cons (de_var rfl) (da_cons (de_var rfl) da_nil)) (no_weights ⟨h1, h2, rfl⟩) rfl)
def R_squared (e : Err4) (ds : List D) (r : Option Addr) : Prop := ∃ x y, ds = [x, y] ∧ (BadN e x r ∨ ∃ ns : List Int, x = .lst (dI ns) ∧ ns.length ≤ 1000 ∧ BadW e ns.length y r)
theorem ok_squared (T : Tx K mg base) : FnOk P w K mg base (L2N.CX P w) 4 T.a_squared T.d_squared ["numbers", "weights"] (spX K 2 (R_squared T.err)) := by
  refine pure_okX T.F_squared sc_squared rfl (fun cdv A outer s H E hr => ?_)
  have nd := sc_squared.nd
  have hu := hr.units
  refine ⟨_, (pss_cons (ps_expr (pe_call (ok_check_numbers T) (hr.mono (by decide)) (by rfl) T.g_check_numbers T.F_check_numbers.kp T.b_check_numbers .nil (passesN (L2N.takes_of rfl rfl rfl rfl) fun _ _ _ _ h => h) (pa_cons (pv 0) pa_nil)))
      (pss_cons (ps_expr (pe_call (ok_check_weights T) (hr.mono (by decide)) (by rfl) T.g_check_weights T.F_check_weights.kp T.b_check_weights .nil (passesN (L2N.takes_of rfl rfl rfl rfl) fun _ _ _ _ h => h) (pa_cons (pv 0) (pa_cons (pv 1) pa_nil))))
      (pss_cons ps_never
      (pss_cons ps_never
      (pss_cons ps_never
      (pss_cons ps_never
      (pss_one ps_never))))))), fun ds r h => ?_⟩
  obtain ⟨x, y, rfl, ⟨h1, h2, rfl⟩ | ⟨ns, rfl, hl, h1, h2, rfl⟩⟩ := h
  · change DSE _ _ _ _ [B.im _, B.im _, B.no, B.no, B.no, B.no, B.no, B.no, B.no, B.no, B.no] _
    exact dse_stop (der_call (da_cons (de_var rfl) da_nil) (no_numbers ⟨h1, h2, rfl⟩) rfl)
  · change DSE _ _ _ _ [B.im _, B.im _, B.no, B.no, B.no, B.no, B.no, B.no, B.no, B.no, B.no] _
    refine dse_pass (de_callN (da_cons (de_var rfl) da_nil) (the_numbers hl) rfl) ?_
    exact dse_stop (der_call (da_cons (de_var rfl) (da_cons (de_var rfl) da_nil)) (no_weights ⟨h1, h2, rfl⟩) rfl)
def R_greatest (e : Err4) (ds : List D) (r : Option Addr) : Prop := ∃ x y, ds = [x, y] ∧ (BadN e x r ∨ ∃ ns : List Int, x = .lst (dI ns) ∧ ns.length ≤ 1000 ∧ BadR e ns.length y r)
theorem ok_greatest (T : Tx K mg base) : FnOk P w K mg base (L2N.CX P w) 4 T.a_greatest T.d_greatest ["numbers", "row"] (spX K 2 (R_greatest T.err)) := by
  refine pure_okX T.F_greatest sc_greatest rfl (fun cdv A outer s H E hr => ?_)
  have nd := sc_greatest.nd
  have hu := hr.units
  refine ⟨_, (pss_cons (ps_expr (pe_call (ok_check_numbers T) (hr.mono (by decide)) (by rfl) T.g_check_numbers T.F_check_numbers.kp T.b_check_numbers .nil (passesN (L2N.takes_of rfl rfl rfl rfl) fun _ _ _ _ h => h) (pa_cons (pv 0) pa_nil)))
      (pss_cons (ps_expr (pe_call (ok_check_row T) (hr.mono (by decide)) (by rfl) T.g_check_row T.F_check_row.kp T.b_check_row .nil (passesN (L2N.takes_of rfl rfl rfl rfl) fun _ _ _ _ h => h) (pa_cons (pv 0) (pa_cons (pv 1) pa_nil))))
      (pss_one ps_never))), fun ds r h => ?_⟩
  obtain ⟨x, y, rfl, ⟨h1, h2, rfl⟩ | ⟨ns, rfl, hl, h1, h2, rfl⟩⟩ := h
  · change DSE _ _ _ _ [B.im _, B.im _] _
    exact dse_stop (der_call (da_cons (de_var rfl) da_nil) (no_numbers ⟨h1, h2, rfl⟩) rfl)
  · change DSE _ _ _ _ [B.im _, B.im _] _
    refine dse_pass (de_callN (da_cons (de_var rfl) da_nil) (the_numbers hl) rfl) ?_
    exact dse_stop (der_call (da_cons (de_var rfl) (da_cons (de_var rfl) da_nil)) (no_row ⟨h1, h2, rfl⟩) rfl)
def R_summed_up (e : Err4) (ds : List D) (r : Option Addr) : Prop := ∃ x y z, ds = [x, y, z] ∧ (BadN e x r ∨ ∃ ns : List Int, x = .lst (dI ns) ∧ ns.length ≤ 1000 ∧ (BadR e ns.length y r ∨ (okL y = true ∧ rowB ns.length y = true ∧ BadW e ns.length z r)))
theorem ok_summed_up (T : Tx K mg base) : FnOk P w K mg base (L2N.CX P w) 4 T.a_summed_up T.d_summed_up ["numbers", "row", "weights"] (spX K 3 (R_summed_up T.err)) := by
  refine pure_okX T.F_summed_up sc_summed_up rfl (fun cdv A outer s H E hr => ?_)
  have nd := sc_summed_up.nd
  have hu := hr.units
  refine ⟨_, (pss_cons (ps_expr (pe_call (ok_check_numbers T) (hr.mono (by decide)) (by rfl) T.g_check_numbers T.F_check_numbers.kp T.b_check_numbers .nil (passesN (L2N.takes_of rfl rfl rfl rfl) fun _ _ _ _ h => h) (pa_cons (pv 0) pa_nil)))
      (pss_cons (ps_expr (pe_call (ok_check_row T) (hr.mono (by decide)) (by rfl) T.g_check_row T.F_check_row.kp T.b_check_row .nil (passesN (L2N.takes_of rfl rfl rfl rfl) fun _ _ _ _ h => h) (pa_cons (pv 0) (pa_cons (pv 1) pa_nil))))
      (pss_cons (ps_expr (pe_call (ok_check_weights T) (hr.mono (by decide)) (by rfl) T.g_check_weights T.F_check_weights.kp T.b_check_weights .nil (passesN (L2N.takes_of rfl rfl rfl rfl) fun _ _ _ _ h => h) (pa_cons (pv 0) (pa_cons (pv 2) pa_nil))))
      (pss_one ps_never)))), fun ds r h => ?_⟩
  obtain ⟨x, y, z, rfl, ⟨h1, h2, rfl⟩ | ⟨ns, rfl, hl, ⟨h1, h2, rfl⟩ | ⟨g1, g2, h1, h2, rfl⟩⟩⟩ := h
  · change DSE _ _ _ _ [B.im _, B.im _, B.im _] _
    exact dse_stop (der_call (da_cons (de_var rfl) da_nil) (no_numbers ⟨h1, h2, rfl⟩) rfl)
  · change DSE _ _ _ _ [B.im _, B.im _, B.im _] _
    refine dse_pass (de_callN (da_cons (de_var rfl) da_nil) (the_numbers hl) rfl) ?_
    exact dse_stop (der_call (da_cons (de_var rfl) (da_cons (de_var rfl) da_nil)) (no_row ⟨h1, h2, rfl⟩) rfl)
  · change DSE _ _ _ _ [B.im _, B.im _, B.im _] _
    refine dse_pass (de_callN (da_cons (de_var rfl) da_nil) (the_numbers hl) rfl) ?_
    refine dse_pass (de_callN (da_cons (de_var rfl) (da_cons (de_var rfl) da_nil)) (the_row g1 g2) rfl) ?_
    exact dse_stop (der_call (da_cons (de_var rfl) (da_cons (de_var rfl) da_nil)) (no_weights ⟨h1, h2, rfl⟩) rfl)
/-! ### a row of fractions -/
def okR : D → Bool
  | .lst es => es.all okT && decide (es.length ≤ 1000)
  | x => ok0 x
def fracsB (n : Nat) : D → Bool
  | .lst es => decide (es.length = n) && es.all fracB
  | _ => false
theorem okR_ok {x : D} (h : okR x = true) : tyN x ≠ "" := by
  cases x <;> first | exact ne_ok h | exact ne_lst
theorem frs_or (n : Nat) (x : D) : (∃ es, x = .lst es) ∨ (isList x = false ∧ fracsB n x = false) := by
  cases x with
  | lst es => exact .inl ⟨_, rfl⟩
  | _ => exact .inr ⟨rfl, rfl⟩
theorem okR_len {es : List D} (h : okR (.lst es) = true) : es.length ≤ 1000 := by
  have h1 : (es.all okT && decide (es.length ≤ 1000)) = true := h
  rw [Bool.and_eq_true] at h1
  exact of_decide_eq_true h1.2
theorem okR_at {es : List D} (h : okR (.lst es) = true) {x : D} (m : x ∈ es) : okT x = true := by
  have h1 : (es.all okT && decide (es.length ≤ 1000)) = true := h
  rw [Bool.and_eq_true] at h1
  exact List.all_eq_true.mp h1.1 x m
def R_squares (e : Err4) (ds : List D) (r : Option Addr) : Prop := ∃ x y z, ds = [x, y, z] ∧ (BadN e x r ∨ ∃ ns : List Int, x = .lst (dI ns) ∧ ns.length ≤ 1000 ∧ okR y = true ∧ ((fracsB ns.length y = false ∧ r = some e.br) ∨ (fracsB ns.length y = true ∧ BadW e ns.length z r)))
theorem ok_squares (T : Tx K mg base) : FnOk P w K mg base (L2N.CX P w) 4 T.a_squares T.d_squares ["numbers", "row", "weights"] (spX K 3 (R_squares T.err)) := by
  refine pure_okX T.F_squares sc_squares rfl (fun cdv A outer s H E hr => ?_)
  have nd := sc_squares.nd
  have hu := hr.units
  refine ⟨_, (pss_cons (ps_expr (pe_call (ok_check_numbers T) (hr.mono (by decide)) (by rfl) T.g_check_numbers T.F_check_numbers.kp T.b_check_numbers .nil (passesN (L2N.takes_of rfl rfl rfl rfl) fun _ _ _ _ h => h) (pa_cons (pv 0) pa_nil)))
      (pss_cons (ps_if (PW.pt (pw_or (pt_not (pt_val (pe_callB (isiK K) (by rfl) T.m_isinstance bt_isinstance (pa_cons (pv 1) (pa_cons (pe_bltn (v := .ty "list") (by rfl) T.m_list bt_list rfl) pa_nil))))) (pw_or (pt_cmpR (neK K hu) (pe_callB (lenK K) (by rfl) T.m_len bt_len (pa_cons (pv 1) pa_nil)) (pe_callB (lenK K) (by rfl) T.m_len bt_len (pa_cons (pv 0) pa_nil)) (nomark _)) (pw_or1 (pt_not (pt_val (pe_callB (allK K rfl) (by rfl) T.m_all bt_all (pa_cons (pe_lc (own := [("one", 8)]) (g := (gName 8)) (tt := tYes) rfl nd (pi_listK K (pv 1)) (blkOk_by (own := [("one", 8)]) (N := N_squares) (sc := defScope s_squares) (by decide +kernel)) (fun _ _ _ _ _ => (pg_name (i := 8) nd rfl (by first | exact Or.inl rfl | exact Or.inr rfl))) (fun _ _ _ _ _ => pts_nil) (fun _ _ _ _ _ => (pe_call (ok_is_fraction T) (hr.mono (by decide)) (by rfl) T.g_is_fraction T.F_is_fraction.kp T.b_is_fraction .nil pass0 (pa_cons (pv 8) pa_nil)))) pa_nil)))))))) (pss_one (ps_raiseE rfl (L2N.takes_of rfl rfl rfl rfl) T.g_BadRow T.e_BadRow (by exact rfl))) pss_nil)
      (pss_cons (ps_expr (pe_call (ok_check_weights T) (hr.mono (by decide)) (by rfl) T.g_check_weights T.F_check_weights.kp T.b_check_weights .nil (passesN (L2N.takes_of rfl rfl rfl rfl) fun _ _ _ _ h => h) (pa_cons (pv 0) (pa_cons (pv 2) pa_nil))))
      (pss_cons ps_never
      (pss_cons ps_never
      (pss_one ps_never)))))), fun ds r h => ?_⟩
  obtain ⟨x, y, z, rfl, ⟨h1, h2, rfl⟩ | ⟨ns, rfl, hl, hy, hr⟩⟩ := h
  · change DSE _ _ _ _ [B.im _, B.im _, B.im _, B.no, B.no, B.no, B.no, B.no, B.no] _
    exact dse_stop (der_call (da_cons (de_var rfl) da_nil) (no_numbers ⟨h1, h2, rfl⟩) rfl)
  · change DSE _ _ _ _ [B.im _, B.im _, B.im _, B.no, B.no, B.no, B.no, B.no, B.no] _
    refine dse_pass (de_callN (da_cons (de_var rfl) da_nil) (the_numbers hl) rfl) ?_
    refine dse_seq (dse_if (b := !fracsB ns.length y) (dto ?_) (fun hb => ?_) fun hb => ?_)
    · rcases frs_or ns.length y with ⟨es, rfl⟩ | ⟨h1, h2⟩
      · refine dt_or2 ?_ ?_
        · refine' dt_is _ _
          rotate_left
          · walk_at "de"
          · rfl
        cases hd : decide (es.length = ns.length) with
        | false =>
          have hf : (!fracsB ns.length (.lst es)) = true := by
            show (!(decide (es.length = ns.length) && es.all fracB)) = true
            rw [hd]
            rfl
          rw [hf]
          refine dt_or1 ?_
          refine' dt_is _ _
          rotate_left
          · walk_at "de"
          · rw [List.length_map, len_ne, hd]
            rfl
        | true =>
          refine dt_or2 ?_ ?_
          · refine' dt_is _ _
            rotate_left
            · walk_at "de"
            · rw [List.length_map, len_ne, hd]
              rfl
          · refine dt_is (dt_not (dt_test (de_cb (da_cons (de_lcB fracB (enc := fun x => x) (di_any (de_var rfl)) (by have := okR_len hy; omega) fun x m => ?_) da_nil) rc_all))) ?_
            · refine ⟨_, dg_name _ (by decide), ?_⟩
              walk_at "de"
              exact okR_at hy m
            · rw [all_map_id]
              show _ = !(decide (es.length = ns.length) && es.all fracB)
              rw [hd, Bool.true_and]
      · rw [h2]
        refine dt_or1 ?_
        refine' dt_is _ _
        rotate_left
        · walk_at "de"
          exact okR_ok hy
        · rw [h1]
          rfl
    · rw [Bool.not_eq_true'] at hb
      rcases hr with ⟨_, rfl⟩ | ⟨h, _⟩
      · exact dse_raise
      · rw [hb] at h
        cases h
    · rw [Bool.not_eq_false'] at hb
      rcases hr with ⟨h, _⟩ | ⟨_, h1, h2, rfl⟩
      · rw [hb] at h
        cases h
      · refine dse_next ?_
        exact dse_stop (der_call (da_cons (de_var rfl) (da_cons (de_var rfl) da_nil)) (no_weights ⟨h1, h2, rfl⟩) rfl)
/-! ### the most -/
def mostB : D → Bool
  | .int i => decide (0 ≤ i)
  | _ => false
theorem most_or (x : D) : (∃ i, x = .int i ∧ mostB x = decide (0 ≤ i)) ∨ isNum x = false := by
  cases x with
  | int i => exact .inl ⟨i, rfl, rfl⟩
  | _ => exact .inr rfl
def R_band (e : Err4) (ds : List D) (r : Option Addr) : Prop := ∃ x y, ds = [x, y] ∧ (BadN e x r ∨ ∃ ns : List Int, x = .lst (dI ns) ∧ ns.length ≤ 1000 ∧ ok0 y = true ∧ mostB y = false ∧ r = some e.bm)
theorem ok_band (T : Tx K mg base) : FnOk P w K mg base (L2N.CX P w) 4 T.a_band T.d_band ["numbers", "most"] (spX K 2 (R_band T.err)) := by
  refine pure_okX T.F_band sc_band rfl (fun cdv A outer s H E hr => ?_)
  have nd := sc_band.nd
  have hu := hr.units
  refine ⟨_, (pss_cons (ps_expr (pe_call (ok_check_numbers T) (hr.mono (by decide)) (by rfl) T.g_check_numbers T.F_check_numbers.kp T.b_check_numbers .nil (passesN (L2N.takes_of rfl rfl rfl rfl) fun _ _ _ _ h => h) (pa_cons (pv 0) pa_nil)))
      (pss_cons (ps_if (PW.pt (pw_or (pt_not (pt_val (pe_call (ok_is_number T) (hr.mono (by decide)) (by rfl) T.g_is_number T.F_is_number.kp T.b_is_number .nil pass0 (pa_cons (pv 1) pa_nil)))) (pw_or1 (pt_cmpR op_lt (pv 1) pe_int (nomark _))))) (pss_one (ps_raiseE rfl (L2N.takes_of rfl rfl rfl rfl) T.g_BadMost T.e_BadMost (by exact rfl))) pss_nil)
      (pss_cons ps_never
      (pss_cons ps_never
      (pss_cons ps_never
      (pss_one ps_never)))))), fun ds r h => ?_⟩
  obtain ⟨x, y, rfl, ⟨h1, h2, rfl⟩ | ⟨ns, rfl, hl, h1, h2, rfl⟩⟩ := h
  · change DSE _ _ _ _ [B.im _, B.im _, B.no, B.no, B.no, B.no] _
    exact dse_stop (der_call (da_cons (de_var rfl) da_nil) (no_numbers ⟨h1, h2, rfl⟩) rfl)
  · change DSE _ _ _ _ [B.im _, B.im _, B.no, B.no, B.no, B.no] _
    refine dse_pass (de_callN (da_cons (de_var rfl) da_nil) (the_numbers hl) rfl) ?_
    refine dse_yes ?_ dse_raise
    rcases most_or y with ⟨i, rfl, hi⟩ | hn
    · refine dt_or2 ?_ ?_
      · refine' dt_is _ _
        rotate_left
        · walk_at "de"
        · rfl
      · refine' dt_is _ _
        rotate_left
        · walk_at "de"
        · rw [hi] at h2
          have := of_decide_eq_false h2
          exact decide_eq_true (by omega)
    · refine dt_or1 ?_
      refine' dt_is _ _
      rotate_left
      · walk_at "de"
        exact ne_ok h1
      · rw [hn]
        rfl
end
end U

namespace U
open PySem PySem.Spec PyProof.Rows L2 DL
section
variable {P : Program} {w : World} {K : PySem.W.Frag} {mg : Str → Option Value} {base : Heap}
local macro_rules | `(tactic| walk_at "lk") => `(tactic| first | with_reducible exact look_hit | ((with_reducible refine look_miss (by decide +kernel) ?_); walk_at "lk") | with_reducible exact look_nil)
local macro_rules | `(tactic| walk_at "fz") => `(tactic| simp only [fz, fzB, chF, Ch.d, List.map, List.set])
local macro_rules | `(tactic| walk_at "ob") => `(tactic| first
  | ((with_reducible show look _ _ = _); walk_at "lk")
  | with_reducible apply de_callO | ((with_reducible show B.d _ = _); rfl) | ((with_reducible apply de_either1); (with_reducible apply de_meth); exact de_var rfl) | ((with_reducible apply de_either2); (with_reducible apply de_meth); exact de_var rfl)
  | with_reducible exact de_cls | with_reducible apply de_fld | with_reducible apply rc_isC | with_reducible apply de_meth
  | walk_at "cl")
local macro_rules | `(tactic| walk_at "r2") => `(tactic| (fail_if_success (with_reducible show R2D _ _ D.non _ _)); (fail_if_success (with_reducible show R2D _ _ _ D.non _)); first
  | exact r2_add | exact r2_sub | exact r2_lt | exact r2_le | exact r2_gt | exact r2_ge
  | with_reducible exact r2_p30 | with_reducible exact r2_p9
  | with_reducible apply r2_mod | with_reducible apply r2_fdiv | with_reducible apply r2_mul | with_reducible apply r2_pow | with_reducible apply r2_cat | with_reducible apply r2_rep1
  | exact r2_ixT rfl | exact r2_ixL rfl | with_reducible apply r2_ixN | with_reducible apply r2_ixI
  | exact r2_eqI | exact r2_neI | exact r2_eqB | exact r2_neB | exact r2_eqL | exact r2_neL | exact r2_isB | exact r2_notB)
local macro_rules | `(tactic| walk_at "rc") => `(tactic| (fail_if_success (with_reducible show RCD _ _ [D.non] _)); (fail_if_success (with_reducible show RCD _ _ [D.non, _] _)); (fail_if_success (with_reducible show RCD _ _ [_, D.non] _)); first
  | with_reducible exact rc_srt
  | exact rc_abs | exact rc_max2 | exact rc_min2 | exact rc_sum | exact rc_all | exact rc_any | exact rc_lenL | exact rc_lenT | exact rc_listL | exact rc_listT
  | with_reducible apply rc_int | with_reducible apply rc_bool | with_reducible apply rc_list | with_reducible apply rc_tuple)
local macro_rules | `(tactic| walk_at "d1") => `(tactic| first
  | with_reducible exact de_int | with_reducible exact de_bl | with_reducible exact de_non | exact de_var rfl
  | with_reducible exact da_nil | with_reducible apply da_cons
  | with_reducible apply de_op | with_reducible apply de_un | with_reducible apply de_cb | with_reducible apply de_call
  | with_reducible apply de_tup | with_reducible apply de_lst
  | with_reducible apply de_andV | with_reducible apply de_orV | with_reducible apply de_notV | ((with_reducible show _ = true → _); intro _) | ((with_reducible show _ = false → _); intro _)
  | with_reducible apply dt_and | with_reducible apply dt_or | with_reducible apply dt_not | with_reducible apply dt_test | with_reducible apply dt_B
  | with_reducible apply de_slice | with_reducible exact do_none | with_reducible apply do_some | with_reducible apply de_rev
  | with_reducible apply de_maxD | with_reducible apply de_chain3 | with_reducible apply de_chain
  | walk_at "r2" | walk_at "rc" | walk_at "ob"
  | ((with_reducible show R1D _ _ (D.int _) _); exact r1_neg)
  | with_reducible exact de_ty
  | with_reducible exact ne_int | with_reducible exact ne_lst | with_reducible exact ne_tup | with_reducible exact ne_bl
  | ((with_reducible show List.length _ = _); rfl) | ((with_reducible show List.length _ + 1 = _); rfl)
  | (with_reducible show List.length _ ≤ 1000); exact Nat.le_of_ble_eq_true rfl)
local macro_rules | `(tactic| walk_at "dg") => `(tactic| repeat' (first | exact dg_name _ trivial | exact dg_name _ (by decide) | with_reducible exact dg_nil | with_reducible apply dg_cons | with_reducible apply dg_tup | ((with_reducible show List.length _ = _); rfl)))
local macro_rules | `(tactic| walk_at "de") => `(tactic| repeat' walk_at "d1")
local macro_rules | `(tactic| walk_at "ret") => `(tactic| (apply ds_ret; apply deo; walk_at "de"))
local macro_rules | `(tactic| walk_at "asg") => `(tactic| (apply ds_seq; apply ds_asg; apply deo; walk_at "de"))
local macro_rules | `(tactic| walk_at "drop") => `(tactic| (apply ds_seq; apply ds_drop; apply deo; walk_at "de"))
local macro_rules | `(tactic| walk_at "par") => `(tactic| (apply ds_seq; apply ds_par; apply dao; walk_at "de"))
local macro_rules | `(tactic| walk_at "parG") => `(tactic| (apply ds_seq; apply ds_asgG; apply deo; walk_at "de"; walk_at "dg"))
local macro_rules | `(tactic| walk_at "lc") => `(tactic| first | with_reducible exact lookC_hit | with_reducible exact lookC_nil | ((with_reducible refine lookC_miss (by decide +kernel) ?_); walk_at "lc"))
local macro_rules | `(tactic| walk_at "pc") => `(tactic| first | with_reducible exact putC_hit | with_reducible exact putC_nil | ((with_reducible apply putC_miss); (decide +kernel); (walk_at "pc")))
local macro_rules | `(tactic| walk_at "d1") => `(tactic| first | exact c_common | with_reducible apply c_is_number)
local macro_rules | `(tactic| walk_at "d1") => `(tactic| with_reducible apply c_is_fraction)
local macro_rules | `(tactic| walk_at "d1") => `(tactic| with_reducible apply c_are_numbers)
/-! ## the doors -/
local macro_rules | `(tactic| walk_at "lit") => `(tactic| (refine' dt_is _ _; rotate_left; (· walk_at "de"); (· rfl)))
section
variable {E : XK} {r : Option Addr} {u : TS} {Γ : List B} {P : Post} {C : Addr} {te ta tb : TE} {c : TT} {d : D} {F : L2.St → XK}
theorem dse_let (i : Nat) (h : DE K te Γ d) (k : DSE K E r u (Γ.set i (.im d)) P) : DSE K E r (tSeq (tAsg te (gName i)) u) Γ P := dse_seq (dse_of (ds_asg i (deo h) k))
theorem der_yes (h : DT K c Γ true) (h1 : DER K F ta Γ C) : DER K F (tIf c ta tb) Γ C := der_if (dto h) (fun _ => h1) fun z => by cases z
theorem der_no (h : DT K c Γ false) (h1 : DER K F tb Γ C) : DER K F (tIf c ta tb) Γ C := der_if (dto h) (fun z => by cases z) fun _ => h1
end
def R__law_more (e : Err4) (ds : List D) (r : Option Addr) : Prop := ∃ (k : Int) (x : D), ds = [.int k, x] ∧ (k = 4 ∨ k = 5 ∨ k = 6 ∨ k = 7) ∧ BadN e x r
theorem ok__law_more (T : Tx K mg base) : FnOk P w K mg base (L2N.CX P w) 5 T.a__law_more T.d__law_more ["_law_door", "_law_thing"] (spX K 2 (R__law_more T.err)) := by
  refine pure_okX T.F__law_more sc__law_more rfl (fun cdv A outer s H E hr => ?_)
  have nd := sc__law_more.nd
  have hu := hr.units
  refine ⟨_, (pss_cons (ps_if (pt_cmpR op_lt (pv 0) pe_int (nomark _)) (pss_one (ps_ret (pe_ifExp (pt_cmpR (eqK K hu) (pv 0) pe_int (nomark _)) (pe_call (ok_summed T) (hr.mono (by decide)) (by rfl) T.g_summed T.F_summed.kp T.b_summed .nil (passesN (L2N.takes_of rfl rfl rfl rfl) fun _ _ _ _ h => h) (pa_cons (pv 1) (pa_cons pe_non pa_nil))) (pe_call (ok_squared T) (hr.mono (by decide)) (by rfl) T.g_squared T.F_squared.kp T.b_squared .nil (passesN (L2N.takes_of rfl rfl rfl rfl) fun _ _ _ _ h => h) (pa_cons (pv 1) (pa_cons pe_non pa_nil)))))) pss_nil)
      (pss_one (ps_ret (pe_ifExp (pt_cmpR (eqK K hu) (pv 0) pe_int (nomark _)) (pe_call (ok_band T) (hr.mono (by decide)) (by rfl) T.g_band T.F_band.kp T.b_band .nil (passesN (L2N.takes_of rfl rfl rfl rfl) fun _ _ _ _ h => h) (pa_cons (pv 1) (pa_cons pe_non pa_nil))) (pe_call (ok_greatest T) (hr.mono (by decide)) (by rfl) T.g_greatest T.F_greatest.kp T.b_greatest .nil (passesN (L2N.takes_of rfl rfl rfl rfl) fun _ _ _ _ h => h) (pa_cons (pv 1) (pa_cons pe_non pa_nil))))))), fun ds r h => ?_⟩
  obtain ⟨k, x, rfl, rfl | rfl | rfl | rfl, h1, h2, rfl⟩ := h
  · change DSE _ _ _ _ [B.im _, B.im _] _
    refine dse_yes (by walk_at "lit") (dse_ret (der_yes (by walk_at "lit") ?_))
    exact der_call (da_cons (de_var rfl) (da_cons de_non da_nil)) ⟨_, _, rfl, .inl ⟨h1, h2, rfl⟩⟩ rfl
  · change DSE _ _ _ _ [B.im _, B.im _] _
    refine dse_yes (by walk_at "lit") (dse_ret (der_no (by walk_at "lit") ?_))
    exact der_call (da_cons (de_var rfl) (da_cons de_non da_nil)) ⟨_, _, rfl, .inl ⟨h1, h2, rfl⟩⟩ rfl
  · change DSE _ _ _ _ [B.im _, B.im _] _
    refine dse_no (by walk_at "lit") (dse_ret (der_yes (by walk_at "lit") ?_))
    exact der_call (da_cons (de_var rfl) (da_cons de_non da_nil)) ⟨_, _, rfl, .inl ⟨h1, h2, rfl⟩⟩ rfl
  · change DSE _ _ _ _ [B.im _, B.im _] _
    refine dse_no (by walk_at "lit") (dse_ret (der_no (by walk_at "lit") ?_))
    exact der_call (da_cons (de_var rfl) (da_cons de_non da_nil)) ⟨_, _, rfl, .inl ⟨h1, h2, rfl⟩⟩ rfl
def R__law_rows (e : Err4) (ds : List D) (r : Option Addr) : Prop := ∃ (k : Int) (x : D), ds = [.int k, x] ∧ ((k = 11 ∧ BadR e 2 x r) ∨ (k = 12 ∧ BadN e x r))
theorem ok__law_rows (T : Tx K mg base) : FnOk P w K mg base (L2N.CX P w) 5 T.a__law_rows T.d__law_rows ["_law_door", "_law_thing"] (spX K 2 (R__law_rows T.err)) := by
  refine pure_okX T.F__law_rows sc__law_rows rfl (fun cdv A outer s H E hr => ?_)
  have nd := sc__law_rows.nd
  have hu := hr.units
  refine ⟨_, (pss_one (ps_ret (pe_ifExp (pt_cmpR (eqK K hu) (pv 0) pe_int (nomark _)) (pe_call (ok_summed_up T) (hr.mono (by decide)) (by rfl) T.g_summed_up T.F_summed_up.kp T.b_summed_up .nil (passesN (L2N.takes_of rfl rfl rfl rfl) fun _ _ _ _ h => h) (pa_cons (pe_lst (pa_cons pe_int (pa_cons pe_int pa_nil))) (pa_cons (pv 1) (pa_cons pe_non pa_nil)))) (pe_call (ok_summed_up T) (hr.mono (by decide)) (by rfl) T.g_summed_up T.F_summed_up.kp T.b_summed_up .nil (passesN (L2N.takes_of rfl rfl rfl rfl) fun _ _ _ _ h => h) (pa_cons (pv 1) (pa_cons pe_non (pa_cons pe_non pa_nil))))))), fun ds r h => ?_⟩
  obtain ⟨k, x, rfl, ⟨rfl, h1, h2, rfl⟩ | ⟨rfl, h1, h2, rfl⟩⟩ := h
  · change DSE _ _ _ _ [B.im _, B.im _] _
    refine dse_ret (der_yes (by walk_at "lit") ?_)
    exact der_call (da_cons (de_lst (da_cons de_int (da_cons de_int da_nil)) (by decide)) (da_cons (de_var rfl) (da_cons de_non da_nil))) ⟨_, _, _, rfl, .inr ⟨[3, 1], rfl, by decide, .inl ⟨h1, h2, rfl⟩⟩⟩ rfl
  · change DSE _ _ _ _ [B.im _, B.im _] _
    refine dse_ret (der_no (by walk_at "lit") ?_)
    exact der_call (da_cons (de_var rfl) (da_cons de_non (da_cons de_non da_nil))) ⟨_, _, _, rfl, .inl ⟨h1, h2, rfl⟩⟩ rfl
inductive Door : Int → Nat → Prop
  | n0 : Door 0 0
  | n1 : Door 1 0
  | n2 : Door 2 0
  | n3 : Door 3 0
  | n4 : Door 4 0
  | n5 : Door 5 0
  | n6 : Door 6 0
  | n7 : Door 7 0
  | n8 : Door 8 1
  | n9 : Door 9 1
  | n10 : Door 10 2
  | n11 : Door 11 2
  | n12 : Door 12 0
  | n13 : Door 13 3
  | n14 : Door 14 4
  | n15 : Door 15 1
  | n16 : Door 16 1
/-- what the doors of that kind refuse -/
def BadK (e : Err4) (x : D) (C : Addr) : Nat → Prop
  | 0 => BadN e x (some C)
  | 1 => BadW e 2 x (some C)
  | 2 => BadR e 2 x (some C)
  | 3 => okR x = true ∧ fracsB 2 x = false ∧ C = e.br
  | _ => ok0 x = true ∧ mostB x = false ∧ C = e.bm
def R__law_ask (e : Err4) (ds : List D) (r : Option Addr) : Prop := ∃ (k : Int) (x : D) (C : Addr) (n : Nat), ds = [.int k, x] ∧ Door k n ∧ BadK e x C n ∧ r = some C
theorem ok__law_ask (T : Tx K mg base) : FnOk P w K mg base (L2N.CX P w) 6 T.a__law_ask T.d__law_ask ["_law_door", "_law_thing"] (spX K 2 (R__law_ask T.err)) := by
  refine pure_okX T.F__law_ask sc__law_ask rfl (fun cdv A outer s H E hr => ?_)
  have nd := sc__law_ask.nd
  have hu := hr.units
  refine ⟨_, (pss_cons (ps_set (i := 2) nd rfl (by first | exact Or.inl rfl | exact Or.inr rfl) (pe_lst (pa_cons pe_int (pa_cons pe_int pa_nil))))
      (pss_cons (ps_if (pt_cmpR op_lt (pv 0) pe_int (nomark _)) (pss_one (ps_ret (pe_ifExp (pt_cmpR (eqK K hu) (pv 0) pe_int (nomark _)) (pe_call (ok_squares T) (hr.mono (by decide)) (by rfl) T.g_squares T.F_squares.kp T.b_squares .nil (passesN (L2N.takes_of rfl rfl rfl rfl) fun _ _ _ _ h => h) (pa_cons (pv 1) (pa_cons pe_non (pa_cons pe_non pa_nil)))) (pe_either (pe_callE (f := T.a_evened) (ok_evened T) (hr.mono (by decide)) T.F_evened.kp T.b_evened (passesN (L2N.takes_of rfl rfl rfl rfl) fun _ _ _ _ h => h) (pe_ix (ixK K) (pe_lst (pa_cons (pe_glob (v := .ref T.a_evened) (by rfl) T.g_evened rfl) (pa_cons (pe_glob (v := .ref T.a_upper) (by rfl) T.g_upper rfl) (pa_cons (pe_glob (v := .ref T.a_lower) (by rfl) T.g_lower rfl) pa_nil)))) (pv 0) (fun _ _ => rfl)) (pa_cons (pv 1) pa_nil)) (pe_either (pe_callE (f := T.a_upper) (ok_upper T) (hr.mono (by decide)) T.F_upper.kp T.b_upper (passesN (L2N.takes_of rfl rfl rfl rfl) fun _ _ _ _ h => h) (pe_ix (ixK K) (pe_lst (pa_cons (pe_glob (v := .ref T.a_evened) (by rfl) T.g_evened rfl) (pa_cons (pe_glob (v := .ref T.a_upper) (by rfl) T.g_upper rfl) (pa_cons (pe_glob (v := .ref T.a_lower) (by rfl) T.g_lower rfl) pa_nil)))) (pv 0) (fun _ _ => rfl)) (pa_cons (pv 1) pa_nil)) (pe_callE (f := T.a_lower) (ok_lower T) (hr.mono (by decide)) T.F_lower.kp T.b_lower (passesN (L2N.takes_of rfl rfl rfl rfl) fun _ _ _ _ h => h) (pe_ix (ixK K) (pe_lst (pa_cons (pe_glob (v := .ref T.a_evened) (by rfl) T.g_evened rfl) (pa_cons (pe_glob (v := .ref T.a_upper) (by rfl) T.g_upper rfl) (pa_cons (pe_glob (v := .ref T.a_lower) (by rfl) T.g_lower rfl) pa_nil)))) (pv 0) (fun _ _ => rfl)) (pa_cons (pv 1) pa_nil))))))) pss_nil)
      (pss_cons (ps_if (pt_cmpR op_lt (pv 0) pe_int (nomark _)) (pss_one (ps_ret (pe_call (ok__law_more T) (hr.mono (by decide)) (by rfl) T.g__law_more T.F__law_more.kp T.b__law_more .nil (passesN (L2N.takes_of rfl rfl rfl rfl) fun _ _ _ _ h => h) (pa_cons (pv 0) (pa_cons (pv 1) pa_nil))))) pss_nil)
      (pss_cons (ps_if (pt_cmpR op_lt (pv 0) pe_int (nomark _)) (pss_one (ps_ret (pe_ifExp (pt_cmpR (eqK K hu) (pv 0) pe_int (nomark _)) (pe_call (ok_summed T) (hr.mono (by decide)) (by rfl) T.g_summed T.F_summed.kp T.b_summed .nil (passesN (L2N.takes_of rfl rfl rfl rfl) fun _ _ _ _ h => h) (pa_cons (pv 2) (pa_cons (pv 1) pa_nil))) (pe_call (ok_squared T) (hr.mono (by decide)) (by rfl) T.g_squared T.F_squared.kp T.b_squared .nil (passesN (L2N.takes_of rfl rfl rfl rfl) fun _ _ _ _ h => h) (pa_cons (pv 2) (pa_cons (pv 1) pa_nil)))))) pss_nil)
      (pss_cons (ps_if (pt_cmpR op_lt (pv 0) pe_int (nomark _)) (pss_one (ps_ret (pe_ifExp (pt_cmpR (eqK K hu) (pv 0) pe_int (nomark _)) (pe_call (ok_greatest T) (hr.mono (by decide)) (by rfl) T.g_greatest T.F_greatest.kp T.b_greatest .nil (passesN (L2N.takes_of rfl rfl rfl rfl) fun _ _ _ _ h => h) (pa_cons (pv 2) (pa_cons (pv 1) pa_nil))) (pe_call (ok__law_rows T) (hr.mono (by decide)) (by rfl) T.g__law_rows T.F__law_rows.kp T.b__law_rows .nil (passesN (L2N.takes_of rfl rfl rfl rfl) fun _ _ _ _ h => h) (pa_cons (pv 0) (pa_cons (pv 1) pa_nil)))))) pss_nil)
      (pss_cons (ps_if (pt_cmpR op_lt (pv 0) pe_int (nomark _)) (pss_one (ps_ret (pe_ifExp (pt_cmpR (eqK K hu) (pv 0) pe_int (nomark _)) (pe_call (ok_squares T) (hr.mono (by decide)) (by rfl) T.g_squares T.F_squares.kp T.b_squares .nil (passesN (L2N.takes_of rfl rfl rfl rfl) fun _ _ _ _ h => h) (pa_cons (pv 2) (pa_cons (pv 1) (pa_cons pe_non pa_nil)))) (pe_call (ok_band T) (hr.mono (by decide)) (by rfl) T.g_band T.F_band.kp T.b_band .nil (passesN (L2N.takes_of rfl rfl rfl rfl) fun _ _ _ _ h => h) (pa_cons (pv 2) (pa_cons (pv 1) pa_nil)))))) pss_nil)
      (pss_one (ps_ret (pe_ifExp (pt_cmpR (eqK K hu) (pv 0) pe_int (nomark _)) (pe_call (ok_summed_up T) (hr.mono (by decide)) (by rfl) T.g_summed_up T.F_summed_up.kp T.b_summed_up .nil (passesN (L2N.takes_of rfl rfl rfl rfl) fun _ _ _ _ h => h) (pa_cons (pv 2) (pa_cons (pe_lst (pa_cons pe_int (pa_cons pe_int pa_nil))) (pa_cons (pv 1) pa_nil)))) (pe_call (ok_squares T) (hr.mono (by decide)) (by rfl) T.g_squares T.F_squares.kp T.b_squares .nil (passesN (L2N.takes_of rfl rfl rfl rfl) fun _ _ _ _ h => h) (pa_cons (pv 2) (pa_cons (pe_lst (pa_cons (pe_tup (pa_cons pe_int (pa_cons pe_int pa_nil))) (pa_cons (pe_tup (pa_cons pe_int (pa_cons pe_int pa_nil))) pa_nil))) (pa_cons (pv 1) pa_nil))))))))))))), fun ds r h => ?_⟩
  obtain ⟨k, x, C, n, rfl, hk, hb, rfl⟩ := h
  cases hk with
  | n0 =>
    change DSE _ _ _ _ [B.im _, B.im _, B.no] _
    refine dse_let 2 (de_lst (da_cons de_int (da_cons de_int da_nil)) (by decide)) ?_
    refine dse_yes (by walk_at "lit") ?_
    exact dse_ret (der_no (by walk_at "lit") (der_1 (der_callE (de_op (de_lst (da_cons de_fn (da_cons de_fn (da_cons de_fn da_nil))) (Nat.le_of_ble_eq_true rfl)) (de_var rfl) (r2_ixL rfl)) (da_cons (de_var rfl) da_nil) ⟨_, rfl, hb⟩ rfl)))
  | n1 =>
    change DSE _ _ _ _ [B.im _, B.im _, B.no] _
    refine dse_let 2 (de_lst (da_cons de_int (da_cons de_int da_nil)) (by decide)) ?_
    refine dse_yes (by walk_at "lit") ?_
    exact dse_ret (der_no (by walk_at "lit") (der_2 (der_1 (der_callE (de_op (de_lst (da_cons de_fn (da_cons de_fn (da_cons de_fn da_nil))) (Nat.le_of_ble_eq_true rfl)) (de_var rfl) (r2_ixL rfl)) (da_cons (de_var rfl) da_nil) ⟨_, rfl, hb⟩ rfl))))
  | n2 =>
    change DSE _ _ _ _ [B.im _, B.im _, B.no] _
    refine dse_let 2 (de_lst (da_cons de_int (da_cons de_int da_nil)) (by decide)) ?_
    refine dse_yes (by walk_at "lit") ?_
    exact dse_ret (der_no (by walk_at "lit") (der_2 (der_2 (der_callE (de_op (de_lst (da_cons de_fn (da_cons de_fn (da_cons de_fn da_nil))) (Nat.le_of_ble_eq_true rfl)) (de_var rfl) (r2_ixL rfl)) (da_cons (de_var rfl) da_nil) ⟨_, rfl, hb⟩ rfl))))
  | n3 =>
    change DSE _ _ _ _ [B.im _, B.im _, B.no] _
    refine dse_let 2 (de_lst (da_cons de_int (da_cons de_int da_nil)) (by decide)) ?_
    refine dse_yes (by walk_at "lit") ?_
    exact dse_ret (der_yes (by walk_at "lit") (der_call (da_cons (de_var rfl) (da_cons de_non (da_cons de_non da_nil))) ⟨_, _, _, rfl, .inl hb⟩ rfl))
  | n4 =>
    change DSE _ _ _ _ [B.im _, B.im _, B.no] _
    refine dse_let 2 (de_lst (da_cons de_int (da_cons de_int da_nil)) (by decide)) ?_
    refine dse_no (by walk_at "lit") ?_
    refine dse_yes (by walk_at "lit") ?_
    exact dse_ret (der_call (da_cons (de_var rfl) (da_cons (de_var rfl) da_nil)) ⟨_, _, rfl, by decide, hb⟩ rfl)
  | n5 =>
    change DSE _ _ _ _ [B.im _, B.im _, B.no] _
    refine dse_let 2 (de_lst (da_cons de_int (da_cons de_int da_nil)) (by decide)) ?_
    refine dse_no (by walk_at "lit") ?_
    refine dse_yes (by walk_at "lit") ?_
    exact dse_ret (der_call (da_cons (de_var rfl) (da_cons (de_var rfl) da_nil)) ⟨_, _, rfl, by decide, hb⟩ rfl)
  | n6 =>
    change DSE _ _ _ _ [B.im _, B.im _, B.no] _
    refine dse_let 2 (de_lst (da_cons de_int (da_cons de_int da_nil)) (by decide)) ?_
    refine dse_no (by walk_at "lit") ?_
    refine dse_yes (by walk_at "lit") ?_
    exact dse_ret (der_call (da_cons (de_var rfl) (da_cons (de_var rfl) da_nil)) ⟨_, _, rfl, by decide, hb⟩ rfl)
  | n7 =>
    change DSE _ _ _ _ [B.im _, B.im _, B.no] _
    refine dse_let 2 (de_lst (da_cons de_int (da_cons de_int da_nil)) (by decide)) ?_
    refine dse_no (by walk_at "lit") ?_
    refine dse_yes (by walk_at "lit") ?_
    exact dse_ret (der_call (da_cons (de_var rfl) (da_cons (de_var rfl) da_nil)) ⟨_, _, rfl, by decide, hb⟩ rfl)
  | n8 =>
    change DSE _ _ _ _ [B.im _, B.im _, B.no] _
    refine dse_let 2 (de_lst (da_cons de_int (da_cons de_int da_nil)) (by decide)) ?_
    refine dse_no (by walk_at "lit") ?_
    refine dse_no (by walk_at "lit") ?_
    refine dse_yes (by walk_at "lit") ?_
    exact dse_ret (der_yes (by walk_at "lit") (der_call (da_cons (de_var rfl) (da_cons (de_var rfl) da_nil)) ⟨_, _, rfl, .inr ⟨[3, 1], rfl, by decide, hb⟩⟩ rfl))
  | n9 =>
    change DSE _ _ _ _ [B.im _, B.im _, B.no] _
    refine dse_let 2 (de_lst (da_cons de_int (da_cons de_int da_nil)) (by decide)) ?_
    refine dse_no (by walk_at "lit") ?_
    refine dse_no (by walk_at "lit") ?_
    refine dse_yes (by walk_at "lit") ?_
    exact dse_ret (der_no (by walk_at "lit") (der_call (da_cons (de_var rfl) (da_cons (de_var rfl) da_nil)) ⟨_, _, rfl, .inr ⟨[3, 1], rfl, by decide, hb⟩⟩ rfl))
  | n10 =>
    change DSE _ _ _ _ [B.im _, B.im _, B.no] _
    refine dse_let 2 (de_lst (da_cons de_int (da_cons de_int da_nil)) (by decide)) ?_
    refine dse_no (by walk_at "lit") ?_
    refine dse_no (by walk_at "lit") ?_
    refine dse_no (by walk_at "lit") ?_
    refine dse_yes (by walk_at "lit") ?_
    exact dse_ret (der_yes (by walk_at "lit") (der_call (da_cons (de_var rfl) (da_cons (de_var rfl) da_nil)) ⟨_, _, rfl, .inr ⟨[3, 1], rfl, by decide, hb⟩⟩ rfl))
  | n11 =>
    change DSE _ _ _ _ [B.im _, B.im _, B.no] _
    refine dse_let 2 (de_lst (da_cons de_int (da_cons de_int da_nil)) (by decide)) ?_
    refine dse_no (by walk_at "lit") ?_
    refine dse_no (by walk_at "lit") ?_
    refine dse_no (by walk_at "lit") ?_
    refine dse_yes (by walk_at "lit") ?_
    exact dse_ret (der_no (by walk_at "lit") (der_call (da_cons (de_var rfl) (da_cons (de_var rfl) da_nil)) ⟨_, _, rfl, .inl ⟨rfl, hb⟩⟩ rfl))
  | n12 =>
    change DSE _ _ _ _ [B.im _, B.im _, B.no] _
    refine dse_let 2 (de_lst (da_cons de_int (da_cons de_int da_nil)) (by decide)) ?_
    refine dse_no (by walk_at "lit") ?_
    refine dse_no (by walk_at "lit") ?_
    refine dse_no (by walk_at "lit") ?_
    refine dse_yes (by walk_at "lit") ?_
    exact dse_ret (der_no (by walk_at "lit") (der_call (da_cons (de_var rfl) (da_cons (de_var rfl) da_nil)) ⟨_, _, rfl, .inr ⟨rfl, hb⟩⟩ rfl))
  | n13 =>
    change DSE _ _ _ _ [B.im _, B.im _, B.no] _
    refine dse_let 2 (de_lst (da_cons de_int (da_cons de_int da_nil)) (by decide)) ?_
    refine dse_no (by walk_at "lit") ?_
    refine dse_no (by walk_at "lit") ?_
    refine dse_no (by walk_at "lit") ?_
    refine dse_no (by walk_at "lit") ?_
    refine dse_yes (by walk_at "lit") ?_
    exact dse_ret (der_yes (by walk_at "lit") (der_call (da_cons (de_var rfl) (da_cons (de_var rfl) (da_cons de_non da_nil))) ⟨_, _, _, rfl, .inr ⟨[3, 1], rfl, by decide, hb.1, .inl ⟨hb.2.1, congrArg some hb.2.2⟩⟩⟩ rfl))
  | n14 =>
    change DSE _ _ _ _ [B.im _, B.im _, B.no] _
    refine dse_let 2 (de_lst (da_cons de_int (da_cons de_int da_nil)) (by decide)) ?_
    refine dse_no (by walk_at "lit") ?_
    refine dse_no (by walk_at "lit") ?_
    refine dse_no (by walk_at "lit") ?_
    refine dse_no (by walk_at "lit") ?_
    refine dse_yes (by walk_at "lit") ?_
    exact dse_ret (der_no (by walk_at "lit") (der_call (da_cons (de_var rfl) (da_cons (de_var rfl) da_nil)) ⟨_, _, rfl, .inr ⟨[3, 1], rfl, by decide, hb.1, hb.2.1, congrArg some hb.2.2⟩⟩ rfl))
  | n15 =>
    change DSE _ _ _ _ [B.im _, B.im _, B.no] _
    refine dse_let 2 (de_lst (da_cons de_int (da_cons de_int da_nil)) (by decide)) ?_
    refine dse_no (by walk_at "lit") ?_
    refine dse_no (by walk_at "lit") ?_
    refine dse_no (by walk_at "lit") ?_
    refine dse_no (by walk_at "lit") ?_
    refine dse_no (by walk_at "lit") ?_
    exact dse_ret (der_yes (by walk_at "lit") (der_call (da_cons (de_var rfl) (da_cons (de_lst (da_cons de_int (da_cons de_int da_nil)) (by decide)) (da_cons (de_var rfl) da_nil))) ⟨_, _, _, rfl, .inr ⟨[3, 1], rfl, by decide, .inr ⟨by decide, by decide, hb⟩⟩⟩ rfl))
  | n16 =>
    change DSE _ _ _ _ [B.im _, B.im _, B.no] _
    refine dse_let 2 (de_lst (da_cons de_int (da_cons de_int da_nil)) (by decide)) ?_
    refine dse_no (by walk_at "lit") ?_
    refine dse_no (by walk_at "lit") ?_
    refine dse_no (by walk_at "lit") ?_
    refine dse_no (by walk_at "lit") ?_
    refine dse_no (by walk_at "lit") ?_
    exact dse_ret (der_no (by walk_at "lit") (der_call (da_cons (de_var rfl) (da_cons (de_lst (da_cons (de_tup (da_cons de_int (da_cons de_int da_nil)) (by decide)) (da_cons (de_tup (da_cons de_int (da_cons de_int da_nil)) (by decide)) da_nil)) (by decide)) (da_cons (de_var rfl) da_nil))) ⟨_, _, _, rfl, .inr ⟨[3, 1], rfl, by decide, by decide, .inr ⟨by decide +kernel, hb⟩⟩⟩ rfl))
end
end U

namespace U
open PySem PySem.Spec PyProof.Rows L2 DL
section
variable {P : Program} {w : World} {K : PySem.W.Frag} {mg : Str → Option Value} {base : Heap}
local macro_rules | `(tactic| walk_at "lk") => `(tactic| first | with_reducible exact look_hit | ((with_reducible refine look_miss (by decide +kernel) ?_); walk_at "lk") | with_reducible exact look_nil)
local macro_rules | `(tactic| walk_at "fz") => `(tactic| simp only [fz, fzB, chF, Ch.d, List.map, List.set])
local macro_rules | `(tactic| walk_at "ob") => `(tactic| first
  | ((with_reducible show look _ _ = _); walk_at "lk")
  | with_reducible apply de_callO | ((with_reducible show B.d _ = _); rfl) | ((with_reducible apply de_either1); (with_reducible apply de_meth); exact de_var rfl) | ((with_reducible apply de_either2); (with_reducible apply de_meth); exact de_var rfl)
  | with_reducible exact de_cls | with_reducible apply de_fld | with_reducible apply rc_isC | with_reducible apply de_meth
  | walk_at "cl")
local macro_rules | `(tactic| walk_at "r2") => `(tactic| (fail_if_success (with_reducible show R2D _ _ D.non _ _)); (fail_if_success (with_reducible show R2D _ _ _ D.non _)); first
  | exact r2_add | exact r2_sub | exact r2_lt | exact r2_le | exact r2_gt | exact r2_ge
  | with_reducible exact r2_p30 | with_reducible exact r2_p9
  | with_reducible apply r2_mod | with_reducible apply r2_fdiv | with_reducible apply r2_mul | with_reducible apply r2_pow | with_reducible apply r2_cat | with_reducible apply r2_rep1
  | exact r2_ixT rfl | exact r2_ixL rfl | with_reducible apply r2_ixN | with_reducible apply r2_ixI
  | exact r2_eqI | exact r2_neI | exact r2_eqB | exact r2_neB | exact r2_eqL | exact r2_neL | exact r2_isB | exact r2_notB)
local macro_rules | `(tactic| walk_at "rc") => `(tactic| (fail_if_success (with_reducible show RCD _ _ [D.non] _)); (fail_if_success (with_reducible show RCD _ _ [D.non, _] _)); (fail_if_success (with_reducible show RCD _ _ [_, D.non] _)); first
  | with_reducible exact rc_srt
  | exact rc_abs | exact rc_max2 | exact rc_min2 | exact rc_sum | exact rc_all | exact rc_any | exact rc_lenL | exact rc_lenT | exact rc_listL | exact rc_listT
  | with_reducible apply rc_int | with_reducible apply rc_bool | with_reducible apply rc_list | with_reducible apply rc_tuple)
local macro_rules | `(tactic| walk_at "d1") => `(tactic| first
  | with_reducible exact de_int | with_reducible exact de_bl | with_reducible exact de_non | exact de_var rfl
  | with_reducible exact da_nil | with_reducible apply da_cons
  | with_reducible apply de_op | with_reducible apply de_un | with_reducible apply de_cb | with_reducible apply de_call
  | with_reducible apply de_tup | with_reducible apply de_lst
  | with_reducible apply de_andV | with_reducible apply de_orV | with_reducible apply de_notV | ((with_reducible show _ = true → _); intro _) | ((with_reducible show _ = false → _); intro _)
  | with_reducible apply dt_and | with_reducible apply dt_or | with_reducible apply dt_not | with_reducible apply dt_test | with_reducible apply dt_B
  | with_reducible apply de_slice | with_reducible exact do_none | with_reducible apply do_some | with_reducible apply de_rev
  | with_reducible apply de_maxD | with_reducible apply de_chain3 | with_reducible apply de_chain
  | walk_at "r2" | walk_at "rc" | walk_at "ob"
  | ((with_reducible show R1D _ _ (D.int _) _); exact r1_neg)
  | with_reducible exact de_ty
  | with_reducible exact ne_int | with_reducible exact ne_lst | with_reducible exact ne_tup | with_reducible exact ne_bl
  | ((with_reducible show List.length _ = _); rfl) | ((with_reducible show List.length _ + 1 = _); rfl)
  | (with_reducible show List.length _ ≤ 1000); exact Nat.le_of_ble_eq_true rfl)
local macro_rules | `(tactic| walk_at "dg") => `(tactic| repeat' (first | exact dg_name _ trivial | exact dg_name _ (by decide) | with_reducible exact dg_nil | with_reducible apply dg_cons | with_reducible apply dg_tup | ((with_reducible show List.length _ = _); rfl)))
local macro_rules | `(tactic| walk_at "de") => `(tactic| repeat' walk_at "d1")
local macro_rules | `(tactic| walk_at "ret") => `(tactic| (apply ds_ret; apply deo; walk_at "de"))
local macro_rules | `(tactic| walk_at "asg") => `(tactic| (apply ds_seq; apply ds_asg; apply deo; walk_at "de"))
local macro_rules | `(tactic| walk_at "drop") => `(tactic| (apply ds_seq; apply ds_drop; apply deo; walk_at "de"))
local macro_rules | `(tactic| walk_at "par") => `(tactic| (apply ds_seq; apply ds_par; apply dao; walk_at "de"))
local macro_rules | `(tactic| walk_at "parG") => `(tactic| (apply ds_seq; apply ds_asgG; apply deo; walk_at "de"; walk_at "dg"))
local macro_rules | `(tactic| walk_at "lc") => `(tactic| first | with_reducible exact lookC_hit | with_reducible exact lookC_nil | ((with_reducible refine lookC_miss (by decide +kernel) ?_); walk_at "lc"))
local macro_rules | `(tactic| walk_at "pc") => `(tactic| first | with_reducible exact putC_hit | with_reducible exact putC_nil | ((with_reducible apply putC_miss); (decide +kernel); (walk_at "pc")))
local macro_rules | `(tactic| walk_at "d1") => `(tactic| first | exact c_common | with_reducible apply c_is_number)
local macro_rules | `(tactic| walk_at "d1") => `(tactic| with_reducible apply c_is_fraction)
local macro_rules | `(tactic| walk_at "d1") => `(tactic| with_reducible apply c_are_numbers)
local macro_rules | `(tactic| walk_at "lit") => `(tactic| (refine' dt_is _ _; rotate_left; (· walk_at "de"); (· rfl)))
/-! ## what is due -/
def DueC : Nat → Int → Prop
  | 0, d => d = 0
  | 1, d => d = 1
  | 2, d => d = 2
  | 3, d => d = 2
  | _, d => d = 3
theorem due_of {e : Err4} {x : D} {C : Addr} {n : Nat} {z : Int} (h : BadK e x C n) (hd : DueC n z) : (C = e.bn ∧ z = 0) ∨ (C = e.bw ∧ z = 1) ∨ (C = e.br ∧ z = 2) ∨ (C = e.bm ∧ z = 3) := by
  match n with
  | 0 => exact .inl ⟨Option.some.inj h.2.2, hd⟩
  | 1 => exact .inr (.inl ⟨Option.some.inj h.2.2, hd⟩)
  | 2 => exact .inr (.inr (.inl ⟨Option.some.inj h.2.2, hd⟩))
  | 3 => exact .inr (.inr (.inl ⟨h.2.2, hd⟩))
  | _ + 4 => exact .inr (.inr (.inr ⟨h.2.2, hd⟩))
theorem same_bls (a b c d : Bool) : qv (.lst ([.bl a, .bl b, .bl c] ++ [.bl d])) (.lst [.bl a, .bl b, .bl c, .bl d]) = true := by
  show qv (.lst [.bl a, .bl b, .bl c, .bl d]) (.lst [.bl a, .bl b, .bl c, .bl d]) = true
  rw [qv_lst, qvA_cons, qvA_cons, qvA_cons, qvA_cons, qvA_nil, qv_bl, qv_bl, qv_bl, qv_bl, decide_eq_true rfl, decide_eq_true rfl, decide_eq_true rfl, decide_eq_true rfl]
  rfl
def R__law_due (e : Err4) (ds : List D) (d : D) : Prop := ∃ (k : Int) (x : D) (z : Int) (C : Addr) (n : Nat), ds = [.int k, x, .int z] ∧ Door k n ∧ BadK e x C n ∧ DueC n z ∧ d = .bl true
theorem ok__law_due (T : Tx K mg base) : FnOk P w K mg base CX0 7 T.a__law_due T.d__law_due ["_law_door", "_law_thing", "_law_due_here"] (spR K 3 (R__law_due T.err)) := by
  refine pure_ok T.F__law_due sc__law_due rfl (fun cdv A outer s H E hr => ?_)
  have nd := sc__law_due.nd
  have hu := hr.units
  refine ⟨_, (pss_cons (L2N.ps_try_as (i := 3) rfl rfl nd rfl rfl ⟨by rfl, by decide, .inl T.g_RowError⟩ takesN0 (fun W pn xe tk _ => (pss_one (ps_expr (pe_callS (ok__law_ask T) (hr.mono (by decide)) (by rfl) T.g__law_ask T.F__law_ask.kp T.b__law_ask (fun σ => L2N.passAt tk σ) (pa_cons (pv 0) (pa_cons (pv 1) pa_nil)))))) (fun a oe cls d pn hz hf => (pss_cons (ps_set (i := 4) nd rfl (by first | exact Or.inl rfl | exact Or.inr rfl) (pe_lst (pa_cons (pe_callB (call_isEX hz hf) (by rfl) T.m_isinstance bt_isinstance (pa_cons (pv 3) (pa_cons (pe_glob (v := .ref T.C_BadNumbers) (by rfl) T.g_BadNumbers rfl) pa_nil))) (pa_cons (pe_callB (call_isEX hz hf) (by rfl) T.m_isinstance bt_isinstance (pa_cons (pv 3) (pa_cons (pe_glob (v := .ref T.C_BadWeights) (by rfl) T.g_BadWeights rfl) pa_nil))) (pa_cons (pe_callB (call_isEX hz hf) (by rfl) T.m_isinstance bt_isinstance (pa_cons (pv 3) (pa_cons (pe_glob (v := .ref T.C_BadRow) (by rfl) T.g_BadRow rfl) pa_nil))) pa_nil)))))
      (pss_one (ps_ret (pe_and (pe_cmpR (eqK K hu) (pe_op (addK K) (pv 4) (pe_lst (pa_cons (pe_callB (call_isEX hz hf) (by rfl) T.m_isinstance bt_isinstance (pa_cons (pv 3) (pa_cons (pe_glob (v := .ref T.C_BadMost) (by rfl) T.g_BadMost rfl) pa_nil))) pa_nil))) (pe_lcHot (own := [("_law_k", 5)]) (g := (gName 5)) (tt := tYes) (q := (a, oe)) List.mem_cons_self (hot1 hz hf) nd (L2H.pi_range1H (by rfl) T.m_range (pa_cons pe_int pa_nil)) (blkOk_by (own := [("_law_k", 5)]) (N := N__law_due) (sc := defScope s__law_due) (by decide +kernel)) (fun _ _ _ _ _ => (pg_name (i := 5) nd rfl (by first | exact Or.inl rfl | exact Or.inr rfl))) (fun _ _ _ _ _ => pts_nil) (fun _ _ _ _ _ => (pe_cmpR (eqK K hu) (pv 5) (pv 2) (nomark _)))) (nomark _)) (pe_one (pe_callB (call_isEX hz hf) (by rfl) T.m_isinstance bt_isinstance (pa_cons (pv 3) (pa_cons (pe_bltn (v := .ty "ValueError") (by rfl) T.m_ValueError bt_ValueError rfl) pa_nil))))))))))
      (pss_one (ps_ret pe_bl))), fun ds d h => ?_⟩
  obtain ⟨k, x, z, C, n, rfl, hk, hb, hz, rfl⟩ := h
  change DS _ _ [B.im _, B.im _, B.im _, B.no, B.no, B.no] _
  have hR : R__law_ask T.err [.int k, x] (some C) := ⟨k, x, C, n, rfl, hk, hb, rfl⟩
  rcases due_of hb hz with ⟨rfl, rfl⟩ | ⟨rfl, rfl⟩ | ⟨rfl, rfl⟩ | ⟨rfl, rfl⟩
  · refine ds_seq (ds_try (i := 3) (da_cons (de_var rfl) (da_cons (de_var rfl) da_nil)) hR rfl T.x_BadNumbers fun a => ?_)
    refine ds_seq (ds_asg 4 (deo (de_lst (da_cons (de_cb (da_cons (de_var rfl) (da_cons de_cls da_nil)) (rc_isEC T.e_BadNumbers.c T.q_BadNumbers_BadNumbers)) (da_cons (de_cb (da_cons (de_var rfl) (da_cons de_cls da_nil)) (rc_isEC T.e_BadNumbers.c T.q_BadNumbers_BadWeights)) (da_cons (de_cb (da_cons (de_var rfl) (da_cons de_cls da_nil)) (rc_isEC T.e_BadNumbers.c T.q_BadNumbers_BadRow)) da_nil))) (Nat.le_of_ble_eq_true rfl))) ?_)
    refine ds_ret (d := .bl true) (deo (de_is (de_andV (x := true) (y := true) ?_ fun _ => ?_) rfl)) rfl
    · refine de_is (de_op (de_op (de_var rfl) (de_lst (da_cons (de_cb (da_cons (de_var rfl) (da_cons de_cls da_nil)) (rc_isEC T.e_BadNumbers.c T.q_BadNumbers_BadMost)) da_nil) (Nat.le_of_ble_eq_true rfl)) (r2_cat (Nat.le_of_ble_eq_true rfl))) (de_lcB (fun i : Nat => decide ((i : Int) = 0)) (di_rng1 (n := 4) (da_cons de_int da_nil) (by decide)) (Nat.le_of_ble_eq_true rfl) fun y hy => ?_) (r2_eq 2 2 rfl rfl)) ?_
      · refine ⟨_, dg_name _ (by decide), ?_⟩
        walk_at "de"
      · exact congrArg D.bl (same_bls true false false false)
    · exact de_cb (da_cons (de_var rfl) (da_cons de_ty da_nil)) (rc_isET T.e_BadNumbers.c T.v_BadNumbers)
  · refine ds_seq (ds_try (i := 3) (da_cons (de_var rfl) (da_cons (de_var rfl) da_nil)) hR rfl T.x_BadWeights fun a => ?_)
    refine ds_seq (ds_asg 4 (deo (de_lst (da_cons (de_cb (da_cons (de_var rfl) (da_cons de_cls da_nil)) (rc_isEC T.e_BadWeights.c T.q_BadWeights_BadNumbers)) (da_cons (de_cb (da_cons (de_var rfl) (da_cons de_cls da_nil)) (rc_isEC T.e_BadWeights.c T.q_BadWeights_BadWeights)) (da_cons (de_cb (da_cons (de_var rfl) (da_cons de_cls da_nil)) (rc_isEC T.e_BadWeights.c T.q_BadWeights_BadRow)) da_nil))) (Nat.le_of_ble_eq_true rfl))) ?_)
    refine ds_ret (d := .bl true) (deo (de_is (de_andV (x := true) (y := true) ?_ fun _ => ?_) rfl)) rfl
    · refine de_is (de_op (de_op (de_var rfl) (de_lst (da_cons (de_cb (da_cons (de_var rfl) (da_cons de_cls da_nil)) (rc_isEC T.e_BadWeights.c T.q_BadWeights_BadMost)) da_nil) (Nat.le_of_ble_eq_true rfl)) (r2_cat (Nat.le_of_ble_eq_true rfl))) (de_lcB (fun i : Nat => decide ((i : Int) = 1)) (di_rng1 (n := 4) (da_cons de_int da_nil) (by decide)) (Nat.le_of_ble_eq_true rfl) fun y hy => ?_) (r2_eq 2 2 rfl rfl)) ?_
      · refine ⟨_, dg_name _ (by decide), ?_⟩
        walk_at "de"
      · exact congrArg D.bl (same_bls false true false false)
    · exact de_cb (da_cons (de_var rfl) (da_cons de_ty da_nil)) (rc_isET T.e_BadWeights.c T.v_BadWeights)
  · refine ds_seq (ds_try (i := 3) (da_cons (de_var rfl) (da_cons (de_var rfl) da_nil)) hR rfl T.x_BadRow fun a => ?_)
    refine ds_seq (ds_asg 4 (deo (de_lst (da_cons (de_cb (da_cons (de_var rfl) (da_cons de_cls da_nil)) (rc_isEC T.e_BadRow.c T.q_BadRow_BadNumbers)) (da_cons (de_cb (da_cons (de_var rfl) (da_cons de_cls da_nil)) (rc_isEC T.e_BadRow.c T.q_BadRow_BadWeights)) (da_cons (de_cb (da_cons (de_var rfl) (da_cons de_cls da_nil)) (rc_isEC T.e_BadRow.c T.q_BadRow_BadRow)) da_nil))) (Nat.le_of_ble_eq_true rfl))) ?_)
    refine ds_ret (d := .bl true) (deo (de_is (de_andV (x := true) (y := true) ?_ fun _ => ?_) rfl)) rfl
    · refine de_is (de_op (de_op (de_var rfl) (de_lst (da_cons (de_cb (da_cons (de_var rfl) (da_cons de_cls da_nil)) (rc_isEC T.e_BadRow.c T.q_BadRow_BadMost)) da_nil) (Nat.le_of_ble_eq_true rfl)) (r2_cat (Nat.le_of_ble_eq_true rfl))) (de_lcB (fun i : Nat => decide ((i : Int) = 2)) (di_rng1 (n := 4) (da_cons de_int da_nil) (by decide)) (Nat.le_of_ble_eq_true rfl) fun y hy => ?_) (r2_eq 2 2 rfl rfl)) ?_
      · refine ⟨_, dg_name _ (by decide), ?_⟩
        walk_at "de"
      · exact congrArg D.bl (same_bls false false true false)
    · exact de_cb (da_cons (de_var rfl) (da_cons de_ty da_nil)) (rc_isET T.e_BadRow.c T.v_BadRow)
  · refine ds_seq (ds_try (i := 3) (da_cons (de_var rfl) (da_cons (de_var rfl) da_nil)) hR rfl T.x_BadMost fun a => ?_)
    refine ds_seq (ds_asg 4 (deo (de_lst (da_cons (de_cb (da_cons (de_var rfl) (da_cons de_cls da_nil)) (rc_isEC T.e_BadMost.c T.q_BadMost_BadNumbers)) (da_cons (de_cb (da_cons (de_var rfl) (da_cons de_cls da_nil)) (rc_isEC T.e_BadMost.c T.q_BadMost_BadWeights)) (da_cons (de_cb (da_cons (de_var rfl) (da_cons de_cls da_nil)) (rc_isEC T.e_BadMost.c T.q_BadMost_BadRow)) da_nil))) (Nat.le_of_ble_eq_true rfl))) ?_)
    refine ds_ret (d := .bl true) (deo (de_is (de_andV (x := true) (y := true) ?_ fun _ => ?_) rfl)) rfl
    · refine de_is (de_op (de_op (de_var rfl) (de_lst (da_cons (de_cb (da_cons (de_var rfl) (da_cons de_cls da_nil)) (rc_isEC T.e_BadMost.c T.q_BadMost_BadMost)) da_nil) (Nat.le_of_ble_eq_true rfl)) (r2_cat (Nat.le_of_ble_eq_true rfl))) (de_lcB (fun i : Nat => decide ((i : Int) = 3)) (di_rng1 (n := 4) (da_cons de_int da_nil) (by decide)) (Nat.le_of_ble_eq_true rfl) fun y hy => ?_) (r2_eq 2 2 rfl rfl)) ?_
      · refine ⟨_, dg_name _ (by decide), ?_⟩
        walk_at "de"
      · exact congrArg D.bl (same_bls false false false true)
    · exact de_cb (da_cons (de_var rfl) (da_cons de_ty da_nil)) (rc_isET T.e_BadMost.c T.v_BadMost)
end
end U

namespace U
open PySem PySem.Spec PyProof.Rows L2 DL
section
variable {P : Program} {w : World} {K : PySem.W.Frag} {mg : Str → Option Value} {base : Heap}
local macro_rules | `(tactic| walk_at "lk") => `(tactic| first | with_reducible exact look_hit | ((with_reducible refine look_miss (by decide +kernel) ?_); walk_at "lk") | with_reducible exact look_nil)
local macro_rules | `(tactic| walk_at "fz") => `(tactic| simp only [fz, fzB, chF, Ch.d, List.map, List.set])
local macro_rules | `(tactic| walk_at "ob") => `(tactic| first
  | ((with_reducible show look _ _ = _); walk_at "lk")
  | with_reducible apply de_callO | ((with_reducible show B.d _ = _); rfl) | ((with_reducible apply de_either1); (with_reducible apply de_meth); exact de_var rfl) | ((with_reducible apply de_either2); (with_reducible apply de_meth); exact de_var rfl)
  | with_reducible exact de_cls | with_reducible apply de_fld | with_reducible apply rc_isC | with_reducible apply de_meth
  | walk_at "cl")
local macro_rules | `(tactic| walk_at "r2") => `(tactic| (fail_if_success (with_reducible show R2D _ _ D.non _ _)); (fail_if_success (with_reducible show R2D _ _ _ D.non _)); first
  | exact r2_add | exact r2_sub | exact r2_lt | exact r2_le | exact r2_gt | exact r2_ge
  | with_reducible exact r2_p30 | with_reducible exact r2_p9
  | with_reducible apply r2_mod | with_reducible apply r2_fdiv | with_reducible apply r2_mul | with_reducible apply r2_pow | with_reducible apply r2_cat | with_reducible apply r2_rep1
  | exact r2_ixT rfl | exact r2_ixL rfl | with_reducible apply r2_ixN | with_reducible apply r2_ixI
  | exact r2_eqI | exact r2_neI | exact r2_eqB | exact r2_neB | exact r2_eqL | exact r2_neL | exact r2_isB | exact r2_notB)
local macro_rules | `(tactic| walk_at "rc") => `(tactic| (fail_if_success (with_reducible show RCD _ _ [D.non] _)); (fail_if_success (with_reducible show RCD _ _ [D.non, _] _)); (fail_if_success (with_reducible show RCD _ _ [_, D.non] _)); first
  | with_reducible exact rc_srt
  | exact rc_abs | exact rc_max2 | exact rc_min2 | exact rc_sum | exact rc_all | exact rc_any | exact rc_lenL | exact rc_lenT | exact rc_listL | exact rc_listT
  | with_reducible apply rc_int | with_reducible apply rc_bool | with_reducible apply rc_list | with_reducible apply rc_tuple)
local macro_rules | `(tactic| walk_at "d1") => `(tactic| first
  | with_reducible exact de_int | with_reducible exact de_bl | with_reducible exact de_non | exact de_var rfl
  | with_reducible exact da_nil | with_reducible apply da_cons
  | with_reducible apply de_op | with_reducible apply de_un | with_reducible apply de_cb | with_reducible apply de_call
  | with_reducible apply de_tup | with_reducible apply de_lst
  | with_reducible apply de_andV | with_reducible apply de_orV | with_reducible apply de_notV | ((with_reducible show _ = true → _); intro _) | ((with_reducible show _ = false → _); intro _)
  | with_reducible apply dt_and | with_reducible apply dt_or | with_reducible apply dt_not | with_reducible apply dt_test | with_reducible apply dt_B
  | with_reducible apply de_slice | with_reducible exact do_none | with_reducible apply do_some | with_reducible apply de_rev
  | with_reducible apply de_maxD | with_reducible apply de_chain3 | with_reducible apply de_chain
  | walk_at "r2" | walk_at "rc" | walk_at "ob"
  | ((with_reducible show R1D _ _ (D.int _) _); exact r1_neg)
  | with_reducible exact de_ty
  | with_reducible exact ne_int | with_reducible exact ne_lst | with_reducible exact ne_tup | with_reducible exact ne_bl
  | ((with_reducible show List.length _ = _); rfl) | ((with_reducible show List.length _ + 1 = _); rfl)
  | (with_reducible show List.length _ ≤ 1000); exact Nat.le_of_ble_eq_true rfl)
local macro_rules | `(tactic| walk_at "dg") => `(tactic| repeat' (first | exact dg_name _ trivial | exact dg_name _ (by decide) | with_reducible exact dg_nil | with_reducible apply dg_cons | with_reducible apply dg_tup | ((with_reducible show List.length _ = _); rfl)))
local macro_rules | `(tactic| walk_at "de") => `(tactic| repeat' walk_at "d1")
local macro_rules | `(tactic| walk_at "ret") => `(tactic| (apply ds_ret; apply deo; walk_at "de"))
local macro_rules | `(tactic| walk_at "asg") => `(tactic| (apply ds_seq; apply ds_asg; apply deo; walk_at "de"))
local macro_rules | `(tactic| walk_at "drop") => `(tactic| (apply ds_seq; apply ds_drop; apply deo; walk_at "de"))
local macro_rules | `(tactic| walk_at "par") => `(tactic| (apply ds_seq; apply ds_par; apply dao; walk_at "de"))
local macro_rules | `(tactic| walk_at "parG") => `(tactic| (apply ds_seq; apply ds_asgG; apply deo; walk_at "de"; walk_at "dg"))
local macro_rules | `(tactic| walk_at "lc") => `(tactic| first | with_reducible exact lookC_hit | with_reducible exact lookC_nil | ((with_reducible refine lookC_miss (by decide +kernel) ?_); walk_at "lc"))
local macro_rules | `(tactic| walk_at "pc") => `(tactic| first | with_reducible exact putC_hit | with_reducible exact putC_nil | ((with_reducible apply putC_miss); (decide +kernel); (walk_at "pc")))
local macro_rules | `(tactic| walk_at "d1") => `(tactic| first | exact c_common | with_reducible apply c_is_number)
local macro_rules | `(tactic| walk_at "d1") => `(tactic| with_reducible apply c_is_fraction)
local macro_rules | `(tactic| walk_at "d1") => `(tactic| with_reducible apply c_are_numbers)
local macro_rules | `(tactic| walk_at "lit") => `(tactic| (refine' dt_is _ _; rotate_left; (· walk_at "de"); (· rfl)))
/-! ## the bad things -/
theorem de_dnew {Γ : List B} : DE K tDNewK Γ .dct := fun σ G H e s Q q p hp => q (.ref p) _ _ (Grow.new e hp) (.dct upd_same)
theorem r2_three {d : D} : R2D K (rMulX K) (.lst [d]) (.int 3) (.lst [d, d, d]) := r2_rep1 (n := 3) (by decide)
theorem r2_cat100 {a b : List D} {x : Bool} (h : (Nat.ble (a.length + b.length) 100000) = true) : R2D K (rAddX K) (.lst a) (.lst b) (.lst (a ++ b)) := r2_cat (Nat.le_of_ble_eq_true h)
theorem pos9' : (0 : Int) < 9 := by decide
local macro_rules | `(tactic| walk_at "d1") => `(tactic| first | with_reducible exact de_dnew | with_reducible exact de_str | with_reducible exact r2_three | with_reducible exact pos9')

def badN (c : Int) : List D := [.non, .tup [.int 1, .int 2], .str "12", .dct, .lst [.non], .lst [.str "1"], .lst [.bl true], .lst [.int 1, .bl false], .lst [.lst [.int 1]], .lst [.int c, .non], .int c, .int 5, .lst [.tup [.int 1, .int 2]]]
def R__law_bad_numbers (ds : List D) (d : D) : Prop := ∃ c : Int, ds = [.int c] ∧ d = .lst (badN c)
theorem ok__law_bad_numbers (T : Tx K mg base) : FnOk P w K mg base CX0 1 T.a__law_bad_numbers T.d__law_bad_numbers ["_law_cell"] (spR K 1 R__law_bad_numbers) := by
  refine pure_ok T.F__law_bad_numbers sc__law_bad_numbers rfl (fun cdv A outer s H E hr => ?_)
  have nd := sc__law_bad_numbers.nd
  have hu := hr.units
  refine ⟨_, (pss_one (ps_ret (pe_lst (pa_cons pe_non (pa_cons (pe_tup (pa_cons pe_int (pa_cons pe_int pa_nil))) (pa_cons pe_str (pa_cons pe_dnewK (pa_cons (pe_lst (pa_cons pe_non pa_nil)) (pa_cons (pe_lst (pa_cons pe_str pa_nil)) (pa_cons (pe_lst (pa_cons pe_bl pa_nil)) (pa_cons (pe_lst (pa_cons pe_int (pa_cons pe_bl pa_nil))) (pa_cons (pe_lst (pa_cons (pe_lst (pa_cons pe_int pa_nil)) pa_nil)) (pa_cons (pe_lst (pa_cons (pv 0) (pa_cons pe_non pa_nil))) (pa_cons (pv 0) (pa_cons pe_int (pa_cons (pe_lst (pa_cons (pe_tup (pa_cons pe_int (pa_cons pe_int pa_nil))) pa_nil)) pa_nil)))))))))))))))), fun ds d h => ?_⟩
  obtain ⟨c, rfl, rfl⟩ := h
  change DS _ _ [B.im _] _
  walk_at "ret"
  · rfl
def badW (c : Int) : List D := [.non, .tup [.int 1, .int 1], .str "11", .dct, .lst [], .lst [.int 1], .lst [.int 1, .int 1, .int 1], .lst [.int 0, .int 1], .lst [.int 1, .int 0], .lst [.int (-1 - c % 9), .int 1], .lst [.int 1, .bl true], .lst [.str "1", .int 1]] ++ [.lst [.int 1, .non], .int c, .lst [.int (1 + c % 9)]]
def R__law_bad_weights (ds : List D) (d : D) : Prop := ∃ c : Int, ds = [.int c] ∧ d = .lst (badW c)
theorem ok__law_bad_weights (T : Tx K mg base) : FnOk P w K mg base CX0 1 T.a__law_bad_weights T.d__law_bad_weights ["_law_cell"] (spR K 1 R__law_bad_weights) := by
  refine pure_ok T.F__law_bad_weights sc__law_bad_weights rfl (fun cdv A outer s H E hr => ?_)
  have nd := sc__law_bad_weights.nd
  have hu := hr.units
  refine ⟨_, (pss_cons (ps_set (i := 1) nd rfl (by first | exact Or.inl rfl | exact Or.inr rfl) (pe_lst (pa_cons pe_non (pa_cons (pe_tup (pa_cons pe_int (pa_cons pe_int pa_nil))) (pa_cons pe_str (pa_cons pe_dnewK (pa_cons (pe_lst pa_nil) (pa_cons (pe_lst (pa_cons pe_int pa_nil)) (pa_cons (pe_lst (pa_cons pe_int (pa_cons pe_int (pa_cons pe_int pa_nil)))) (pa_cons (pe_lst (pa_cons pe_int (pa_cons pe_int pa_nil))) (pa_cons (pe_lst (pa_cons pe_int (pa_cons pe_int pa_nil))) (pa_cons (pe_lst (pa_cons (pe_op op_sub (pe_un un_neg pe_int) (pe_op op_mod (pv 0) pe_int)) (pa_cons pe_int pa_nil))) (pa_cons (pe_lst (pa_cons pe_int (pa_cons pe_bl pa_nil))) (pa_cons (pe_lst (pa_cons pe_str (pa_cons pe_int pa_nil))) pa_nil))))))))))))))
      (pss_one (ps_ret (pe_op (addK K) (pv 1) (pe_lst (pa_cons (pe_lst (pa_cons pe_int (pa_cons pe_non pa_nil))) (pa_cons (pv 0) (pa_cons (pe_lst (pa_cons (pe_op (addK K) pe_int (pe_op op_mod (pv 0) pe_int)) pa_nil)) pa_nil)))))))), fun ds d h => ?_⟩
  obtain ⟨c, rfl, rfl⟩ := h
  change DS _ _ [B.im _, B.no] _
  walk_at "asg"
  walk_at "ret"
  · exact Nat.le_of_ble_eq_true rfl
  · rfl
def badR (c : Int) : List D := [.non, .tup [.int 1, .int 1], .str "11", .dct, .lst [], .lst [.int 1], .lst [.int 1, .int 1, .int 1], .lst [.int c], .lst [.int 1, .bl true], .lst [.str "1", .int 1], .lst [.int 1, .non], .int c, .lst [.tup [.int 1, .int 2], .int 1]]
def R__law_bad_rows (ds : List D) (d : D) : Prop := ∃ c : Int, ds = [.int c] ∧ d = .lst (badR c)
theorem ok__law_bad_rows (T : Tx K mg base) : FnOk P w K mg base CX0 1 T.a__law_bad_rows T.d__law_bad_rows ["_law_cell"] (spR K 1 R__law_bad_rows) := by
  refine pure_ok T.F__law_bad_rows sc__law_bad_rows rfl (fun cdv A outer s H E hr => ?_)
  have nd := sc__law_bad_rows.nd
  have hu := hr.units
  refine ⟨_, (pss_one (ps_ret (pe_lst (pa_cons pe_non (pa_cons (pe_tup (pa_cons pe_int (pa_cons pe_int pa_nil))) (pa_cons pe_str (pa_cons pe_dnewK (pa_cons (pe_lst pa_nil) (pa_cons (pe_lst (pa_cons pe_int pa_nil)) (pa_cons (pe_lst (pa_cons pe_int (pa_cons pe_int (pa_cons pe_int pa_nil)))) (pa_cons (pe_lst (pa_cons (pv 0) pa_nil)) (pa_cons (pe_lst (pa_cons pe_int (pa_cons pe_bl pa_nil))) (pa_cons (pe_lst (pa_cons pe_str (pa_cons pe_int pa_nil))) (pa_cons (pe_lst (pa_cons pe_int (pa_cons pe_non pa_nil))) (pa_cons (pv 0) (pa_cons (pe_lst (pa_cons (pe_tup (pa_cons pe_int (pa_cons pe_int pa_nil))) (pa_cons pe_int pa_nil))) pa_nil)))))))))))))))), fun ds d h => ?_⟩
  obtain ⟨c, rfl, rfl⟩ := h
  change DS _ _ [B.im _] _
  walk_at "ret"
  · rfl
def badF (c : Int) : List D := [.non, .lst [], .lst [.tup [.int 1, .int 2]], .lst [.tup [.int 1, .int 2], .tup [.int 1, .int 2], .tup [.int 1, .int 2]], .lst [.tup [.int 1, .int 2], .tup [.int 2, .int 4]], .lst [.tup [.int 1, .int 2], .tup [.int 1, .int 0]], .lst [.tup [.int 1, .int 2], .tup [.int 1, .int (-3)]], .lst [.tup [.int 1, .int 2], .int 1]] ++ [.lst [.tup [.int 1, .int 2], .tup [.int 0, .int 2]], .lst [.tup [.int 1, .int 2], .lst [.int 1, .int 2]], .lst [.tup [.int 1, .int 2], .tup [.bl true, .int 1]], .lst [.tup [.int 1, .int 2], .tup [.int 1, .int 2, .int 3]], .lst [.tup [.int c, .int 1]], .int c]
def R__law_bad_fractions (ds : List D) (d : D) : Prop := ∃ c : Int, ds = [.int c] ∧ d = .lst (badF c)
theorem ok__law_bad_fractions (T : Tx K mg base) : FnOk P w K mg base CX0 1 T.a__law_bad_fractions T.d__law_bad_fractions ["_law_cell"] (spR K 1 R__law_bad_fractions) := by
  refine pure_ok T.F__law_bad_fractions sc__law_bad_fractions rfl (fun cdv A outer s H E hr => ?_)
  have nd := sc__law_bad_fractions.nd
  have hu := hr.units
  refine ⟨_, (pss_cons (ps_set (i := 1) nd rfl (by first | exact Or.inl rfl | exact Or.inr rfl) (pe_lst (pa_cons pe_non (pa_cons (pe_lst pa_nil) (pa_cons (pe_lst (pa_cons (pe_tup (pa_cons pe_int (pa_cons pe_int pa_nil))) pa_nil)) (pa_cons (pe_op (mulK K) (pe_lst (pa_cons (pe_tup (pa_cons pe_int (pa_cons pe_int pa_nil))) pa_nil)) pe_int) (pa_cons (pe_lst (pa_cons (pe_tup (pa_cons pe_int (pa_cons pe_int pa_nil))) (pa_cons (pe_tup (pa_cons pe_int (pa_cons pe_int pa_nil))) pa_nil))) (pa_cons (pe_lst (pa_cons (pe_tup (pa_cons pe_int (pa_cons pe_int pa_nil))) (pa_cons (pe_tup (pa_cons pe_int (pa_cons pe_int pa_nil))) pa_nil))) (pa_cons (pe_lst (pa_cons (pe_tup (pa_cons pe_int (pa_cons pe_int pa_nil))) (pa_cons (pe_tup (pa_cons pe_int (pa_cons (pe_un un_neg pe_int) pa_nil))) pa_nil))) (pa_cons (pe_lst (pa_cons (pe_tup (pa_cons pe_int (pa_cons pe_int pa_nil))) (pa_cons pe_int pa_nil))) pa_nil))))))))))
      (pss_one (ps_ret (pe_op (addK K) (pv 1) (pe_lst (pa_cons (pe_lst (pa_cons (pe_tup (pa_cons pe_int (pa_cons pe_int pa_nil))) (pa_cons (pe_tup (pa_cons pe_int (pa_cons pe_int pa_nil))) pa_nil))) (pa_cons (pe_lst (pa_cons (pe_tup (pa_cons pe_int (pa_cons pe_int pa_nil))) (pa_cons (pe_lst (pa_cons pe_int (pa_cons pe_int pa_nil))) pa_nil))) (pa_cons (pe_lst (pa_cons (pe_tup (pa_cons pe_int (pa_cons pe_int pa_nil))) (pa_cons (pe_tup (pa_cons pe_bl (pa_cons pe_int pa_nil))) pa_nil))) (pa_cons (pe_lst (pa_cons (pe_tup (pa_cons pe_int (pa_cons pe_int pa_nil))) (pa_cons (pe_tup (pa_cons pe_int (pa_cons pe_int (pa_cons pe_int pa_nil)))) pa_nil))) (pa_cons (pe_lst (pa_cons (pe_tup (pa_cons (pv 0) (pa_cons pe_int pa_nil))) pa_nil)) (pa_cons (pv 0) pa_nil))))))))))), fun ds d h => ?_⟩
  obtain ⟨c, rfl, rfl⟩ := h
  change DS _ _ [B.im _, B.no] _
  walk_at "asg"
  walk_at "ret"
  · exact Nat.le_of_ble_eq_true rfl
  · rfl
def badM (c : Int) : List D := [.non, .int (-1), .int (-1 - c % 9), .bl true, .bl false, .str "1", .lst [.int 1], .tup [.int 2]]
def R__law_bad_mosts (ds : List D) (d : D) : Prop := ∃ c : Int, ds = [.int c] ∧ d = .lst (badM c)
theorem ok__law_bad_mosts (T : Tx K mg base) : FnOk P w K mg base CX0 1 T.a__law_bad_mosts T.d__law_bad_mosts ["_law_cell"] (spR K 1 R__law_bad_mosts) := by
  refine pure_ok T.F__law_bad_mosts sc__law_bad_mosts rfl (fun cdv A outer s H E hr => ?_)
  have nd := sc__law_bad_mosts.nd
  have hu := hr.units
  refine ⟨_, (pss_one (ps_ret (pe_lst (pa_cons pe_non (pa_cons (pe_un un_neg pe_int) (pa_cons (pe_op op_sub (pe_un un_neg pe_int) (pe_op op_mod (pv 0) pe_int)) (pa_cons pe_bl (pa_cons pe_bl (pa_cons pe_str (pa_cons (pe_lst (pa_cons pe_int pa_nil)) (pa_cons (pe_tup (pa_cons pe_int pa_nil)) pa_nil))))))))))), fun ds d h => ?_⟩
  obtain ⟨c, rfl, rfl⟩ := h
  change DS _ _ [B.im _] _
  walk_at "ret"
  · rfl
end
end U

namespace U
open PySem PySem.Spec PyProof.Rows L2 DL
section
variable {P : Program} {w : World} {K : PySem.W.Frag} {mg : Str → Option Value} {base : Heap}
local macro_rules | `(tactic| walk_at "lk") => `(tactic| first | with_reducible exact look_hit | ((with_reducible refine look_miss (by decide +kernel) ?_); walk_at "lk") | with_reducible exact look_nil)
local macro_rules | `(tactic| walk_at "fz") => `(tactic| simp only [fz, fzB, chF, Ch.d, List.map, List.set])
local macro_rules | `(tactic| walk_at "ob") => `(tactic| first
  | ((with_reducible show look _ _ = _); walk_at "lk")
  | with_reducible apply de_callO | ((with_reducible show B.d _ = _); rfl) | ((with_reducible apply de_either1); (with_reducible apply de_meth); exact de_var rfl) | ((with_reducible apply de_either2); (with_reducible apply de_meth); exact de_var rfl)
  | with_reducible exact de_cls | with_reducible apply de_fld | with_reducible apply rc_isC | with_reducible apply de_meth
  | walk_at "cl")
local macro_rules | `(tactic| walk_at "r2") => `(tactic| (fail_if_success (with_reducible show R2D _ _ D.non _ _)); (fail_if_success (with_reducible show R2D _ _ _ D.non _)); first
  | exact r2_add | exact r2_sub | exact r2_lt | exact r2_le | exact r2_gt | exact r2_ge
  | with_reducible exact r2_p30 | with_reducible exact r2_p9
  | with_reducible apply r2_mod | with_reducible apply r2_fdiv | with_reducible apply r2_mul | with_reducible apply r2_pow | with_reducible apply r2_cat | with_reducible apply r2_rep1
  | exact r2_ixT rfl | exact r2_ixL rfl | with_reducible apply r2_ixN | with_reducible apply r2_ixI
  | exact r2_eqI | exact r2_neI | exact r2_eqB | exact r2_neB | exact r2_eqL | exact r2_neL | exact r2_isB | exact r2_notB)
local macro_rules | `(tactic| walk_at "rc") => `(tactic| (fail_if_success (with_reducible show RCD _ _ [D.non] _)); (fail_if_success (with_reducible show RCD _ _ [D.non, _] _)); (fail_if_success (with_reducible show RCD _ _ [_, D.non] _)); first
  | with_reducible exact rc_srt
  | exact rc_abs | exact rc_max2 | exact rc_min2 | exact rc_sum | exact rc_all | exact rc_any | exact rc_lenL | exact rc_lenT | exact rc_listL | exact rc_listT
  | with_reducible apply rc_int | with_reducible apply rc_bool | with_reducible apply rc_list | with_reducible apply rc_tuple)
local macro_rules | `(tactic| walk_at "d1") => `(tactic| first
  | with_reducible exact de_int | with_reducible exact de_bl | with_reducible exact de_non | exact de_var rfl
  | with_reducible exact da_nil | with_reducible apply da_cons
  | with_reducible apply de_op | with_reducible apply de_un | with_reducible apply de_cb | with_reducible apply de_call
  | with_reducible apply de_tup | with_reducible apply de_lst
  | with_reducible apply de_andV | with_reducible apply de_orV | with_reducible apply de_notV | ((with_reducible show _ = true → _); intro _) | ((with_reducible show _ = false → _); intro _)
  | with_reducible apply dt_and | with_reducible apply dt_or | with_reducible apply dt_not | with_reducible apply dt_test | with_reducible apply dt_B
  | with_reducible apply de_slice | with_reducible exact do_none | with_reducible apply do_some | with_reducible apply de_rev
  | with_reducible apply de_maxD | with_reducible apply de_chain3 | with_reducible apply de_chain
  | walk_at "r2" | walk_at "rc" | walk_at "ob"
  | ((with_reducible show R1D _ _ (D.int _) _); exact r1_neg)
  | with_reducible exact de_ty
  | with_reducible exact ne_int | with_reducible exact ne_lst | with_reducible exact ne_tup | with_reducible exact ne_bl
  | ((with_reducible show List.length _ = _); rfl) | ((with_reducible show List.length _ + 1 = _); rfl)
  | (with_reducible show List.length _ ≤ 1000); exact Nat.le_of_ble_eq_true rfl)
local macro_rules | `(tactic| walk_at "dg") => `(tactic| repeat' (first | exact dg_name _ trivial | exact dg_name _ (by decide) | with_reducible exact dg_nil | with_reducible apply dg_cons | with_reducible apply dg_tup | ((with_reducible show List.length _ = _); rfl)))
local macro_rules | `(tactic| walk_at "de") => `(tactic| repeat' walk_at "d1")
local macro_rules | `(tactic| walk_at "ret") => `(tactic| (apply ds_ret; apply deo; walk_at "de"))
local macro_rules | `(tactic| walk_at "asg") => `(tactic| (apply ds_seq; apply ds_asg; apply deo; walk_at "de"))
local macro_rules | `(tactic| walk_at "drop") => `(tactic| (apply ds_seq; apply ds_drop; apply deo; walk_at "de"))
local macro_rules | `(tactic| walk_at "par") => `(tactic| (apply ds_seq; apply ds_par; apply dao; walk_at "de"))
local macro_rules | `(tactic| walk_at "parG") => `(tactic| (apply ds_seq; apply ds_asgG; apply deo; walk_at "de"; walk_at "dg"))
local macro_rules | `(tactic| walk_at "lc") => `(tactic| first | with_reducible exact lookC_hit | with_reducible exact lookC_nil | ((with_reducible refine lookC_miss (by decide +kernel) ?_); walk_at "lc"))
local macro_rules | `(tactic| walk_at "pc") => `(tactic| first | with_reducible exact putC_hit | with_reducible exact putC_nil | ((with_reducible apply putC_miss); (decide +kernel); (walk_at "pc")))
local macro_rules | `(tactic| walk_at "d1") => `(tactic| first | exact c_common | with_reducible apply c_is_number)
local macro_rules | `(tactic| walk_at "d1") => `(tactic| with_reducible apply c_is_fraction)
local macro_rules | `(tactic| walk_at "d1") => `(tactic| with_reducible apply c_are_numbers)
local macro_rules | `(tactic| walk_at "lit") => `(tactic| (refine' dt_is _ _; rotate_left; (· walk_at "de"); (· rfl)))
local macro_rules | `(tactic| walk_at "d1") => `(tactic| first | with_reducible exact de_dnew | with_reducible exact de_str | with_reducible exact r2_three | with_reducible exact pos9')
/-! ## they are all bad -/
theorem badN_bad (c : Int) : ∀ x ∈ badN c, okL x = true ∧ numsB x = false := by
  unfold badN
  repeat first | exact (fun x h => absurd h List.not_mem_nil) | refine List.forall_mem_cons.mpr ⟨⟨rfl, rfl⟩, ?_⟩
theorem neg9 (c : Int) : decide (0 < -1 - c % 9) = false := decide_eq_false (by have := Int.emod_nonneg c (show (9 : Int) ≠ 0 by decide); omega)
theorem neg9' (c : Int) : decide (0 ≤ -1 - c % 9) = false := decide_eq_false (by have := Int.emod_nonneg c (show (9 : Int) ≠ 0 by decide); omega)
theorem wts_neg (c : Int) : wtsB 2 (.lst [.int (-1 - c % 9), .int 1]) = false := by
  show (true && (decide (0 < -1 - c % 9) && true)) = false
  rw [neg9]
  rfl
theorem badW_bad (c : Int) : ∀ x ∈ badW c, okL x = true ∧ wtsB 2 x = false := by
  unfold badW
  rw [List.cons_append, List.cons_append, List.cons_append, List.cons_append, List.cons_append, List.cons_append, List.cons_append, List.cons_append, List.cons_append, List.cons_append, List.cons_append, List.cons_append, List.nil_append]
  repeat first | exact (fun x h => absurd h List.not_mem_nil) | refine List.forall_mem_cons.mpr ⟨⟨rfl, rfl⟩, ?_⟩ | refine List.forall_mem_cons.mpr ⟨⟨rfl, wts_neg c⟩, ?_⟩
theorem badR_bad (c : Int) : ∀ x ∈ badR c, okL x = true ∧ rowB 2 x = false := by
  unfold badR
  repeat first | exact (fun x h => absurd h List.not_mem_nil) | refine List.forall_mem_cons.mpr ⟨⟨rfl, rfl⟩, ?_⟩
theorem badF_bad (c : Int) : ∀ x ∈ badF c, okR x = true ∧ fracsB 2 x = false := by
  unfold badF
  rw [List.cons_append, List.cons_append, List.cons_append, List.cons_append, List.cons_append, List.cons_append, List.cons_append, List.cons_append, List.nil_append]
  repeat first | exact (fun x h => absurd h List.not_mem_nil) | refine List.forall_mem_cons.mpr ⟨⟨rfl, rfl⟩, ?_⟩ | refine List.forall_mem_cons.mpr ⟨⟨rfl, by decide +kernel⟩, ?_⟩
theorem badM_bad (c : Int) : ∀ x ∈ badM c, ok0 x = true ∧ mostB x = false := by
  unfold badM
  repeat first | exact (fun x h => absurd h List.not_mem_nil) | refine List.forall_mem_cons.mpr ⟨⟨rfl, rfl⟩, ?_⟩ | refine List.forall_mem_cons.mpr ⟨⟨rfl, neg9' c⟩, ?_⟩
/-! ## the law -/
def E60 : Int := 1000000000000000000000000000000000000000000000000000000000000
theorem r2_p60 : R2D K (rI CPow fun i j => .int (i ^ j.toNat)) (.int 10) (.int 60) (.int E60) := by
  have e : (10 : Int) ^ (60 : Int).toNat = E60 := by decide +kernel
  rw [← e]
  exact r2_pow ⟨by decide, by decide, by decide⟩
theorem posE60 : (0 : Int) < E60 := by decide
theorem ix_any {α : Type} {es : List α} (z : Int) (h : 0 < es.length) : ∃ x, x ∈ es ∧ atI es (z % (es.length : Int)) = some x := by
  have h1 := Int.emod_nonneg z (show (es.length : Int) ≠ 0 by omega)
  have h2 := Int.emod_lt_of_pos z (show (0 : Int) < es.length by omega)
  have hl : (z % (es.length : Int)).toNat < es.length := by omega
  exact ⟨es[(z % (es.length : Int)).toNat], List.getElem_mem hl, at_int h1 (List.getElem?_eq_getElem hl)⟩
/-- the call of one of the five -/
def tThings (T : Tx K mg base) (E : XK) (t : TA) : TE := fun σ H Q => tCallL 3 T.a__law_bad_numbers (spR K 1 R__law_bad_numbers) [] E t σ H Q ∨ (fun σ H Q => tCallL 3 T.a__law_bad_weights (spR K 1 R__law_bad_weights) [] E t σ H Q ∨ (fun σ H Q => tCallL 3 T.a__law_bad_rows (spR K 1 R__law_bad_rows) [] E t σ H Q ∨ (fun σ H Q => tCallL 3 T.a__law_bad_fractions (spR K 1 R__law_bad_fractions) [] E t σ H Q ∨ tCallL 3 T.a__law_bad_mosts (spR K 1 R__law_bad_mosts) [] E t σ H Q) σ H Q) σ H Q) σ H Q
structure KOk (T : Tx K mg base) (n : Nat) (ks : List Int) (f : Addr) (z : Int) (bad : Int → List D) : Prop where
  dr : ∀ k ∈ ks, Door k n
  l0 : 0 < ks.length
  l1 : ks.length ≤ 1000
  du : DueC n z
  bd : ∀ c, ∀ x ∈ bad c, ∃ C, BadK T.err x C n
  b0 : ∀ c, 0 < (bad c).length
  b1 : ∀ c, (bad c).length ≤ 1000
  ca : ∀ (E : XK) (t : TA) (Γ : List B) (c : Int), Γ[3]? = some (.im (.op (.ref f))) → DAr K t Γ [.int c] → DE K (tThings T E t) Γ (.lst (bad c))
theorem k_numbers (T : Tx K mg base) : KOk T 0 [0, 1, 2, 3, 4, 5, 6, 7, 12] T.a__law_bad_numbers 0 badN where
  dr := by
    repeat first | exact (fun x h => absurd h List.not_mem_nil) | refine List.forall_mem_cons.mpr ⟨by constructor, ?_⟩
  l0 := by decide
  l1 := by decide
  du := rfl
  bd := fun c x h => ⟨_, (badN_bad c x h).1, (badN_bad c x h).2, rfl⟩
  b0 := fun c => Nat.le_of_ble_eq_true rfl
  b1 := fun c => Nat.le_of_ble_eq_true rfl
  ca := fun E t Γ c h1 h2 => de_either1 (de_callL h1 h2 ⟨c, rfl, rfl⟩ rfl)
theorem k_weights (T : Tx K mg base) : KOk T 1 [8, 9, 15, 16] T.a__law_bad_weights 1 badW where
  dr := by
    repeat first | exact (fun x h => absurd h List.not_mem_nil) | refine List.forall_mem_cons.mpr ⟨by constructor, ?_⟩
  l0 := by decide
  l1 := by decide
  du := rfl
  bd := fun c x h => ⟨_, (badW_bad c x h).1, (badW_bad c x h).2, rfl⟩
  b0 := fun c => Nat.le_of_ble_eq_true rfl
  b1 := fun c => Nat.le_of_ble_eq_true rfl
  ca := fun E t Γ c h1 h2 => de_either2 (de_either1 (de_callL h1 h2 ⟨c, rfl, rfl⟩ rfl))
theorem k_rows (T : Tx K mg base) : KOk T 2 [10, 11] T.a__law_bad_rows 2 badR where
  dr := by
    repeat first | exact (fun x h => absurd h List.not_mem_nil) | refine List.forall_mem_cons.mpr ⟨by constructor, ?_⟩
  l0 := by decide
  l1 := by decide
  du := rfl
  bd := fun c x h => ⟨_, (badR_bad c x h).1, (badR_bad c x h).2, rfl⟩
  b0 := fun c => Nat.le_of_ble_eq_true rfl
  b1 := fun c => Nat.le_of_ble_eq_true rfl
  ca := fun E t Γ c h1 h2 => de_either2 (de_either2 (de_either1 (de_callL h1 h2 ⟨c, rfl, rfl⟩ rfl)))
theorem k_fractions (T : Tx K mg base) : KOk T 3 [13] T.a__law_bad_fractions 2 badF where
  dr := by
    repeat first | exact (fun x h => absurd h List.not_mem_nil) | refine List.forall_mem_cons.mpr ⟨by constructor, ?_⟩
  l0 := by decide
  l1 := by decide
  du := rfl
  bd := fun c x h => ⟨_, (badF_bad c x h).1, (badF_bad c x h).2, rfl⟩
  b0 := fun c => Nat.le_of_ble_eq_true rfl
  b1 := fun c => Nat.le_of_ble_eq_true rfl
  ca := fun E t Γ c h1 h2 => de_either2 (de_either2 (de_either2 (de_either1 (de_callL h1 h2 ⟨c, rfl, rfl⟩ rfl))))
theorem k_mosts (T : Tx K mg base) : KOk T 4 [14] T.a__law_bad_mosts 3 badM where
  dr := by
    repeat first | exact (fun x h => absurd h List.not_mem_nil) | refine List.forall_mem_cons.mpr ⟨by constructor, ?_⟩
  l0 := by decide
  l1 := by decide
  du := rfl
  bd := fun c x h => ⟨_, (badM_bad c x h).1, (badM_bad c x h).2, rfl⟩
  b0 := fun c => Nat.le_of_ble_eq_true rfl
  b1 := fun c => Nat.le_of_ble_eq_true rfl
  ca := fun E t Γ c h1 h2 => de_either2 (de_either2 (de_either2 (de_either2 (de_callL h1 h2 ⟨c, rfl, rfl⟩ rfl))))
def kind1 (ks : List Int) (f : Addr) (z : Int) : D := .tup [.lst (dI ks), .op (.ref f), .int z]
def kindsD (T : Tx K mg base) : List D := [kind1 [0, 1, 2, 3, 4, 5, 6, 7, 12] T.a__law_bad_numbers 0, kind1 [8, 9, 15, 16] T.a__law_bad_weights 1] ++ [kind1 [10, 11] T.a__law_bad_rows 2, kind1 [13] T.a__law_bad_fractions 2, kind1 [14] T.a__law_bad_mosts 3]
theorem kinds_ok (T : Tx K mg base) : ∀ d ∈ kindsD T, ∃ n ks f z bad, d = kind1 ks f z ∧ KOk T n ks f z bad := by
  unfold kindsD
  rw [List.cons_append, List.cons_append, List.nil_append]
  exact List.forall_mem_cons.mpr ⟨⟨_, _, _, _, _, rfl, k_numbers T⟩, List.forall_mem_cons.mpr ⟨⟨_, _, _, _, _, rfl, k_weights T⟩, List.forall_mem_cons.mpr ⟨⟨_, _, _, _, _, rfl, k_rows T⟩, List.forall_mem_cons.mpr ⟨⟨_, _, _, _, _, rfl, k_fractions T⟩, List.forall_mem_cons.mpr ⟨⟨_, _, _, _, _, rfl, k_mosts T⟩, fun x h => absurd h List.not_mem_nil⟩⟩⟩⟩⟩
end
end U

namespace U
open PySem PySem.Spec PyProof.Rows L2 DL
section
variable {P : Program} {w : World} {K : PySem.W.Frag} {mg : Str → Option Value} {base : Heap}
local macro_rules | `(tactic| walk_at "lk") => `(tactic| first | with_reducible exact look_hit | ((with_reducible refine look_miss (by decide +kernel) ?_); walk_at "lk") | with_reducible exact look_nil)
local macro_rules | `(tactic| walk_at "fz") => `(tactic| simp only [fz, fzB, chF, Ch.d, List.map, List.set])
local macro_rules | `(tactic| walk_at "ob") => `(tactic| first
  | ((with_reducible show look _ _ = _); walk_at "lk")
  | with_reducible apply de_callO | ((with_reducible show B.d _ = _); rfl) | ((with_reducible apply de_either1); (with_reducible apply de_meth); exact de_var rfl) | ((with_reducible apply de_either2); (with_reducible apply de_meth); exact de_var rfl)
  | with_reducible exact de_cls | with_reducible apply de_fld | with_reducible apply rc_isC | with_reducible apply de_meth
  | walk_at "cl")
local macro_rules | `(tactic| walk_at "r2") => `(tactic| (fail_if_success (with_reducible show R2D _ _ D.non _ _)); (fail_if_success (with_reducible show R2D _ _ _ D.non _)); first
  | exact r2_add | exact r2_sub | exact r2_lt | exact r2_le | exact r2_gt | exact r2_ge
  | with_reducible exact r2_p30 | with_reducible exact r2_p9
  | with_reducible apply r2_mod | with_reducible apply r2_fdiv | with_reducible apply r2_mul | with_reducible apply r2_pow | with_reducible apply r2_cat | with_reducible apply r2_rep1
  | exact r2_ixT rfl | exact r2_ixL rfl | with_reducible apply r2_ixN | with_reducible apply r2_ixI
  | exact r2_eqI | exact r2_neI | exact r2_eqB | exact r2_neB | exact r2_eqL | exact r2_neL | exact r2_isB | exact r2_notB)
local macro_rules | `(tactic| walk_at "rc") => `(tactic| (fail_if_success (with_reducible show RCD _ _ [D.non] _)); (fail_if_success (with_reducible show RCD _ _ [D.non, _] _)); (fail_if_success (with_reducible show RCD _ _ [_, D.non] _)); first
  | with_reducible exact rc_srt
  | exact rc_abs | exact rc_max2 | exact rc_min2 | exact rc_sum | exact rc_all | exact rc_any | exact rc_lenL | exact rc_lenT | exact rc_listL | exact rc_listT
  | with_reducible apply rc_int | with_reducible apply rc_bool | with_reducible apply rc_list | with_reducible apply rc_tuple)
local macro_rules | `(tactic| walk_at "d1") => `(tactic| first
  | with_reducible exact de_int | with_reducible exact de_bl | with_reducible exact de_non | exact de_var rfl
  | with_reducible exact da_nil | with_reducible apply da_cons
  | with_reducible apply de_op | with_reducible apply de_un | with_reducible apply de_cb | with_reducible apply de_call
  | with_reducible apply de_tup | with_reducible apply de_lst
  | with_reducible apply de_andV | with_reducible apply de_orV | with_reducible apply de_notV | ((with_reducible show _ = true → _); intro _) | ((with_reducible show _ = false → _); intro _)
  | with_reducible apply dt_and | with_reducible apply dt_or | with_reducible apply dt_not | with_reducible apply dt_test | with_reducible apply dt_B
  | with_reducible apply de_slice | with_reducible exact do_none | with_reducible apply do_some | with_reducible apply de_rev
  | with_reducible apply de_maxD | with_reducible apply de_chain3 | with_reducible apply de_chain
  | walk_at "r2" | walk_at "rc" | walk_at "ob"
  | ((with_reducible show R1D _ _ (D.int _) _); exact r1_neg)
  | with_reducible exact de_ty
  | with_reducible exact ne_int | with_reducible exact ne_lst | with_reducible exact ne_tup | with_reducible exact ne_bl
  | ((with_reducible show List.length _ = _); rfl) | ((with_reducible show List.length _ + 1 = _); rfl)
  | (with_reducible show List.length _ ≤ 1000); exact Nat.le_of_ble_eq_true rfl)
local macro_rules | `(tactic| walk_at "dg") => `(tactic| repeat' (first | exact dg_name _ trivial | exact dg_name _ (by decide) | with_reducible exact dg_nil | with_reducible apply dg_cons | with_reducible apply dg_tup | ((with_reducible show List.length _ = _); rfl)))
local macro_rules | `(tactic| walk_at "de") => `(tactic| repeat' walk_at "d1")
local macro_rules | `(tactic| walk_at "ret") => `(tactic| (apply ds_ret; apply deo; walk_at "de"))
local macro_rules | `(tactic| walk_at "asg") => `(tactic| (apply ds_seq; apply ds_asg; apply deo; walk_at "de"))
local macro_rules | `(tactic| walk_at "drop") => `(tactic| (apply ds_seq; apply ds_drop; apply deo; walk_at "de"))
local macro_rules | `(tactic| walk_at "par") => `(tactic| (apply ds_seq; apply ds_par; apply dao; walk_at "de"))
local macro_rules | `(tactic| walk_at "parG") => `(tactic| (apply ds_seq; apply ds_asgG; apply deo; walk_at "de"; walk_at "dg"))
local macro_rules | `(tactic| walk_at "lc") => `(tactic| first | with_reducible exact lookC_hit | with_reducible exact lookC_nil | ((with_reducible refine lookC_miss (by decide +kernel) ?_); walk_at "lc"))
local macro_rules | `(tactic| walk_at "pc") => `(tactic| first | with_reducible exact putC_hit | with_reducible exact putC_nil | ((with_reducible apply putC_miss); (decide +kernel); (walk_at "pc")))
local macro_rules | `(tactic| walk_at "d1") => `(tactic| first | exact c_common | with_reducible apply c_is_number)
local macro_rules | `(tactic| walk_at "d1") => `(tactic| with_reducible apply c_is_fraction)
local macro_rules | `(tactic| walk_at "d1") => `(tactic| with_reducible apply c_are_numbers)
local macro_rules | `(tactic| walk_at "lit") => `(tactic| (refine' dt_is _ _; rotate_left; (· walk_at "de"); (· rfl)))
local macro_rules | `(tactic| walk_at "d1") => `(tactic| first | with_reducible exact de_dnew | with_reducible exact de_str | with_reducible exact r2_three | with_reducible exact pos9')
local macro_rules | `(tactic| walk_at "d1") => `(tactic| with_reducible exact de_fn)
def R_law (ds : List D) (d : D) : Prop := ∃ s : List Int, ds = [.lst (dI s)] ∧ s.length ≤ 63 ∧ d = .bl true
theorem ok_law (T : Tx K mg base) : FnOk P w K mg base CX0 8 T.a_law T.d_law ["_law_script"] (spR K 1 R_law) := by
  refine pure_ok T.F_law sc_law rfl (fun cdv A outer s H E hr => ?_)
  have nd := sc_law.nd
  have hu := hr.units
  refine ⟨_, (pss_cons (ps_set (i := 1) nd rfl (by first | exact Or.inl rfl | exact Or.inr rfl) (pe_lst (pa_cons (pe_tup (pa_cons (pe_lst (pa_cons pe_int (pa_cons pe_int (pa_cons pe_int (pa_cons pe_int (pa_cons pe_int (pa_cons pe_int (pa_cons pe_int (pa_cons pe_int (pa_cons pe_int pa_nil)))))))))) (pa_cons (pe_glob (v := .ref T.a__law_bad_numbers) (by rfl) T.g__law_bad_numbers rfl) (pa_cons pe_int pa_nil)))) (pa_cons (pe_tup (pa_cons (pe_lst (pa_cons pe_int (pa_cons pe_int (pa_cons pe_int (pa_cons pe_int pa_nil))))) (pa_cons (pe_glob (v := .ref T.a__law_bad_weights) (by rfl) T.g__law_bad_weights rfl) (pa_cons pe_int pa_nil)))) pa_nil))))
      (pss_cons (ps_set (i := 1) nd rfl (by first | exact Or.inl rfl | exact Or.inr rfl) (pe_op (addK K) (pv 1) (pe_lst (pa_cons (pe_tup (pa_cons (pe_lst (pa_cons pe_int (pa_cons pe_int pa_nil))) (pa_cons (pe_glob (v := .ref T.a__law_bad_rows) (by rfl) T.g__law_bad_rows rfl) (pa_cons pe_int pa_nil)))) (pa_cons (pe_tup (pa_cons (pe_lst (pa_cons pe_int pa_nil)) (pa_cons (pe_glob (v := .ref T.a__law_bad_fractions) (by rfl) T.g__law_bad_fractions rfl) (pa_cons pe_int pa_nil)))) (pa_cons (pe_tup (pa_cons (pe_lst (pa_cons pe_int pa_nil)) (pa_cons (pe_glob (v := .ref T.a__law_bad_mosts) (by rfl) T.g__law_bad_mosts rfl) (pa_cons pe_int pa_nil)))) pa_nil))))))
      (pss_cons (ps_for PassesOwn.never rfl (pi_listK K (pv 1)) (pg_tupK (n := 3) K rfl (pgs_cons (pg_name (i := 2) nd rfl (by first | exact Or.inl rfl | exact Or.inr rfl)) (pgs_cons (pg_name (i := 3) nd rfl (by first | exact Or.inl rfl | exact Or.inr rfl)) (pgs_cons (pg_name (i := 4) nd rfl (by first | exact Or.inl rfl | exact Or.inr rfl)) pgs_nil)))) (pss_cons (ps_for PassesOwn.never rfl (pi_listK K (pv 2)) (pg_name (i := 5) nd rfl (by first | exact Or.inl rfl | exact Or.inr rfl)) (pss_one (ps_if (pt_not (pt_val (pe_callB (allK K rfl) (by rfl) T.m_all bt_all (pa_cons (pe_lc (own := [("_law_thing", 8)]) (g := (gName 8)) (tt := tYes) rfl nd (pi_listK K (pe_either (pe_callL (i := 3) (f := T.a__law_bad_numbers) (ok__law_bad_numbers T) (hr.mono (by decide)) rfl (by first | exact Or.inl rfl | exact Or.inr (Or.inl rfl) | exact Or.inr (Or.inr rfl)) T.F__law_bad_numbers.kp T.b__law_bad_numbers .nil pass0 (pa_cons (pe_callB (lenK K) (by rfl) T.m_len bt_len (pa_cons (pv 0) pa_nil)) pa_nil)) (pe_either (pe_callL (i := 3) (f := T.a__law_bad_weights) (ok__law_bad_weights T) (hr.mono (by decide)) rfl (by first | exact Or.inl rfl | exact Or.inr (Or.inl rfl) | exact Or.inr (Or.inr rfl)) T.F__law_bad_weights.kp T.b__law_bad_weights .nil pass0 (pa_cons (pe_callB (lenK K) (by rfl) T.m_len bt_len (pa_cons (pv 0) pa_nil)) pa_nil)) (pe_either (pe_callL (i := 3) (f := T.a__law_bad_rows) (ok__law_bad_rows T) (hr.mono (by decide)) rfl (by first | exact Or.inl rfl | exact Or.inr (Or.inl rfl) | exact Or.inr (Or.inr rfl)) T.F__law_bad_rows.kp T.b__law_bad_rows .nil pass0 (pa_cons (pe_callB (lenK K) (by rfl) T.m_len bt_len (pa_cons (pv 0) pa_nil)) pa_nil)) (pe_either (pe_callL (i := 3) (f := T.a__law_bad_fractions) (ok__law_bad_fractions T) (hr.mono (by decide)) rfl (by first | exact Or.inl rfl | exact Or.inr (Or.inl rfl) | exact Or.inr (Or.inr rfl)) T.F__law_bad_fractions.kp T.b__law_bad_fractions .nil pass0 (pa_cons (pe_callB (lenK K) (by rfl) T.m_len bt_len (pa_cons (pv 0) pa_nil)) pa_nil)) (pe_callL (i := 3) (f := T.a__law_bad_mosts) (ok__law_bad_mosts T) (hr.mono (by decide)) rfl (by first | exact Or.inl rfl | exact Or.inr (Or.inl rfl) | exact Or.inr (Or.inr rfl)) T.F__law_bad_mosts.kp T.b__law_bad_mosts .nil pass0 (pa_cons (pe_callB (lenK K) (by rfl) T.m_len bt_len (pa_cons (pv 0) pa_nil)) pa_nil))))))) (blkOk_by (own := [("_law_thing", 8)]) (N := N_law) (sc := defScope s_law) (by decide +kernel)) (fun _ _ _ _ _ => (pg_name (i := 8) nd rfl (by first | exact Or.inl rfl | exact Or.inr rfl))) (fun _ _ _ _ _ => pts_nil) (fun _ _ _ _ _ => (pe_call (ok__law_due T) (hr.mono (by decide)) (by rfl) T.g__law_due T.F__law_due.kp T.b__law_due .nil pass0 (pa_cons (pv 5) (pa_cons (pv 8) (pa_cons (pv 4) pa_nil)))))) pa_nil)))) (pss_one (ps_ret pe_bl)) pss_nil)))
      (pss_one (ps_for PassesOwn.never rfl (pi_listK K (pv 0)) (pg_name (i := 6) nd rfl (by first | exact Or.inl rfl | exact Or.inr rfl)) (pss_cons (ps_set (i := 7) nd rfl (by first | exact Or.inl rfl | exact Or.inr rfl) (pe_either (pe_callL (i := 3) (f := T.a__law_bad_numbers) (ok__law_bad_numbers T) (hr.mono (by decide)) rfl (by first | exact Or.inl rfl | exact Or.inr (Or.inl rfl) | exact Or.inr (Or.inr rfl)) T.F__law_bad_numbers.kp T.b__law_bad_numbers .nil pass0 (pa_cons (pe_op op_mod (pv 6) (pe_op op_pow pe_int pe_int)) pa_nil)) (pe_either (pe_callL (i := 3) (f := T.a__law_bad_weights) (ok__law_bad_weights T) (hr.mono (by decide)) rfl (by first | exact Or.inl rfl | exact Or.inr (Or.inl rfl) | exact Or.inr (Or.inr rfl)) T.F__law_bad_weights.kp T.b__law_bad_weights .nil pass0 (pa_cons (pe_op op_mod (pv 6) (pe_op op_pow pe_int pe_int)) pa_nil)) (pe_either (pe_callL (i := 3) (f := T.a__law_bad_rows) (ok__law_bad_rows T) (hr.mono (by decide)) rfl (by first | exact Or.inl rfl | exact Or.inr (Or.inl rfl) | exact Or.inr (Or.inr rfl)) T.F__law_bad_rows.kp T.b__law_bad_rows .nil pass0 (pa_cons (pe_op op_mod (pv 6) (pe_op op_pow pe_int pe_int)) pa_nil)) (pe_either (pe_callL (i := 3) (f := T.a__law_bad_fractions) (ok__law_bad_fractions T) (hr.mono (by decide)) rfl (by first | exact Or.inl rfl | exact Or.inr (Or.inl rfl) | exact Or.inr (Or.inr rfl)) T.F__law_bad_fractions.kp T.b__law_bad_fractions .nil pass0 (pa_cons (pe_op op_mod (pv 6) (pe_op op_pow pe_int pe_int)) pa_nil)) (pe_callL (i := 3) (f := T.a__law_bad_mosts) (ok__law_bad_mosts T) (hr.mono (by decide)) rfl (by first | exact Or.inl rfl | exact Or.inr (Or.inl rfl) | exact Or.inr (Or.inr rfl)) T.F__law_bad_mosts.kp T.b__law_bad_mosts .nil pass0 (pa_cons (pe_op op_mod (pv 6) (pe_op op_pow pe_int pe_int)) pa_nil)))))))
      (pss_one (ps_if (pt_not (pt_val (pe_call (ok__law_due T) (hr.mono (by decide)) (by rfl) T.g__law_due T.F__law_due.kp T.b__law_due .nil pass0 (pa_cons (pe_ix (ixK K) (pv 2) (pe_op op_mod (pv 6) (pe_callB (lenK K) (by rfl) T.m_len bt_len (pa_cons (pv 2) pa_nil))) (fun _ _ => rfl)) (pa_cons (pe_ix (ixK K) (pv 7) (pe_op op_mod (pe_op op_fdivW (pv 6) (pe_callB (lenK K) (by rfl) T.m_len bt_len (pa_cons (pv 2) pa_nil))) (pe_callB (lenK K) (by rfl) T.m_len bt_len (pa_cons (pv 7) pa_nil))) (fun _ _ => rfl)) (pa_cons (pv 4) pa_nil)))))) (pss_one (ps_ret pe_bl)) pss_nil)))))))
      (pss_one (ps_ret pe_bl))))), fun ds d h => ?_⟩
  obtain ⟨s, rfl, hl, rfl⟩ := h
  change DS _ _ [B.im _, B.no, B.no, B.no, B.no, B.no, B.no, B.no, B.no] _
  walk_at "asg"
  apply ds_seq
  refine ds_asg 1 (d := .lst (kindsD T)) (deo ?_) ?_
  · refine' de_is _ _
    rotate_left
    · walk_at "de"
      exact Nat.le_of_ble_eq_true rfl
    · rfl
  refine ds_seq (ds_for (ds := kindsD T) (I := fun _ Γ' => ∃ b2 b3 b4 b5 b6 b7, Γ' = [.im (.lst (dI s)), .im (.lst (kindsD T)), b2, b3, b4, b5, b6, b7, .no]) (di_list (de_var rfl)) ⟨_, _, _, _, _, _, rfl⟩ ?_ ?_)
  · rintro i d Γ' hd ⟨b2, b3, b4, b5, b6, b7, rfl⟩
    obtain ⟨n, ks, f, z, bad, rfl, q⟩ := kinds_ok T d (List.mem_of_getElem? hd)
    refine ⟨[.im (.lst (dI s)), .im (.lst (kindsD T)), .im (.lst (dI ks)), .im (.op (.ref f)), .im (.int z), b5, b6, b7, .no], dg_tup (dg_cons (dg_name 2 trivial) (dg_cons (dg_name 3 trivial) (dg_cons (dg_name 4 trivial) dg_nil))) rfl, ?_⟩
    refine ds_seq (ds_for (ds := dI ks) (I := fun _ Γ' => ∃ b5, Γ' = [.im (.lst (dI s)), .im (.lst (kindsD T)), .im (.lst (dI ks)), .im (.op (.ref f)), .im (.int z), b5, b6, b7, .no]) (di_list (de_var rfl)) ⟨_, rfl⟩ ?_ ?_)
    · rintro j d Γ' hd ⟨b5, rfl⟩
      obtain ⟨k, hk, rfl⟩ := List.mem_map.mp (List.mem_of_getElem? hd)
      refine ⟨_, dg_name 5 trivial, ?_⟩
      refine ds_ifF (dto ?_) (ds_next ⟨_, rfl⟩)
      refine dt_is (dt_not (dt_test (de_cb (da_cons (de_lcB (fun _ : D => true) (enc := fun x => x) (di_any (q.ca _ _ _ ((dI s).length : Int) rfl (da_cons (de_cb (da_cons (de_var rfl) da_nil) rc_lenL) da_nil))) (by
        have := q.b1 ((dI s).length : Int)
        omega) fun x hx => ?_) da_nil) rc_all))) ?_
      · obtain ⟨C, hC⟩ := q.bd _ x hx
        exact ⟨_, dg_name _ (by decide), de_call (da_cons (de_var rfl) (da_cons (de_var rfl) (da_cons (de_var rfl) da_nil))) ⟨k, x, z, C, n, rfl, q.dr k hk, hC, q.du, rfl⟩ rfl⟩
      · rw [all_map_id, List.all_eq_true.mpr fun _ _ => rfl]
        rfl
    · rintro Γ' ⟨b5, rfl⟩
      refine ds_for (ds := dI s) (I := fun _ Γ' => ∃ b6 b7, Γ' = [.im (.lst (dI s)), .im (.lst (kindsD T)), .im (.lst (dI ks)), .im (.op (.ref f)), .im (.int z), b5, b6, b7, .no]) (di_list (de_var rfl)) ⟨_, _, rfl⟩ ?_ ?_
      · rintro j d Γ' hd ⟨b6, b7, rfl⟩
        obtain ⟨c, hc, rfl⟩ := List.mem_map.mp (List.mem_of_getElem? hd)
        refine ⟨_, dg_name 6 trivial, ?_⟩
        refine ds_seq (ds_asg 7 (d := .lst (bad (c % E60))) (deo (q.ca _ _ _ _ rfl (da_cons (de_op (de_var rfl) (de_op de_int de_int r2_p60) (r2_mod posE60)) da_nil))) ?_)
        have lk : (dI ks).length = ks.length := List.length_map ..
        have l0 := q.l0
        have l1 := q.l1
        obtain ⟨x', hx', e1⟩ := ix_any (es := dI ks) c (by omega)
        obtain ⟨k, hk, rfl⟩ := List.mem_map.mp hx'
        obtain ⟨x, hx, e2⟩ := ix_any (es := bad (c % E60)) (c / ((dI ks).length : Int)) (q.b0 _)
        obtain ⟨C, hC⟩ := q.bd _ x hx
        have p1 : (0 : Int) < ((dI ks).length : Int) := by omega
        have p2 : (0 : Int) < ((bad (c % E60)).length : Int) := by
          have := q.b0 (c % E60)
          omega
        have p3 : CDivW c ((dI ks).length : Int) := Fit.divok (n := 10) p1 ⟨by
          rw [Int.natAbs_natCast]
          omega⟩ (by decide)
        exact ds_ifF (dto (dt_is (dt_not (dt_test (de_call (da_cons (de_op (de_var rfl) (de_op (de_var rfl) (de_cb (da_cons (de_var rfl) da_nil) rc_lenL) (r2_mod p1)) (r2_ixL e1)) (da_cons (de_op (de_var rfl) (de_op (de_op (de_var rfl) (de_cb (da_cons (de_var rfl) da_nil) rc_lenL) (r2_fdiv p3)) (de_cb (da_cons (de_var rfl) da_nil) rc_lenL) (r2_mod p2)) (r2_ixL e2)) (da_cons (de_var rfl) da_nil))) ⟨k, x, z, C, n, rfl, q.dr k hk, hC, q.du, rfl⟩ rfl))) rfl)) (ds_next ⟨_, _, rfl⟩)
      · rintro Γ' ⟨b6, b7, rfl⟩
        exact ⟨_, _, _, _, _, _, rfl⟩
  · rintro Γ' ⟨b2, b3, b4, b5, b6, b7, rfl⟩
    walk_at "ret"
    rfl
theorem law_goes (ns : List Int) (h : ns.length ≤ 63) (h2 : ∀ z ∈ ns, Fit 1048577 z) : R_law [.lst (dI ns)] (.bl true) := ⟨ns, rfl, h, rfl⟩
end
end U

namespace U
open PySem PySem.Spec PyProof.Rows L2 DL
theorem all_mk {l : PySem.W.OpenLaw} {w : World} {K : PySem.W.Frag} {h : Heap} {mg : Str → Option Value} {fa : Addr} (X : K.In h) (G : h.Ns mainGlobals mg) (hfa : mg "law" = some (.ref fa))
    {od1 an1 : Option Addr} {sl1 : Array (Option Value)} {oc1 kV1 dc1 pm1 cd1 ct1 : Value} {f1 : Addr}
    {od2 an2 : Option Addr} {sl2 : Array (Option Value)} {oc2 kV2 dc2 pm2 cd2 ct2 : Value} {f2 : Addr}
    {od3 an3 : Option Addr} {sl3 : Array (Option Value)} {oc3 kV3 dc3 pm3 cd3 ct3 : Value} {f3 : Addr}
    {od4 an4 : Option Addr} {sl4 : Array (Option Value)} {oc4 kV4 dc4 pm4 cd4 ct4 : Value} {f4 : Addr}
    {od5 an5 : Option Addr} {sl5 : Array (Option Value)} {oc5 kV5 dc5 pm5 cd5 ct5 : Value} {f5 : Addr}
    {od6 an6 : Option Addr} {sl6 : Array (Option Value)} {oc6 kV6 dc6 pm6 cd6 ct6 : Value} {f6 : Addr}
    {od7 an7 : Option Addr} {sl7 : Array (Option Value)} {oc7 kV7 dc7 pm7 cd7 ct7 : Value} {f7 : Addr}
    {od8 an8 : Option Addr} {sl8 : Array (Option Value)} {oc8 kV8 dc8 pm8 cd8 ct8 : Value} {f8 : Addr}
    {od9 an9 : Option Addr} {sl9 : Array (Option Value)} {oc9 kV9 dc9 pm9 cd9 ct9 : Value} {f9 : Addr}
    {od10 an10 : Option Addr} {sl10 : Array (Option Value)} {oc10 kV10 dc10 pm10 cd10 ct10 : Value} {f10 : Addr}
    {od11 an11 : Option Addr} {sl11 : Array (Option Value)} {oc11 kV11 dc11 pm11 cd11 ct11 : Value} {f11 : Addr}
    {od12 an12 : Option Addr} {sl12 : Array (Option Value)} {oc12 kV12 dc12 pm12 cd12 ct12 : Value} {f12 : Addr}
    {od13 an13 : Option Addr} {sl13 : Array (Option Value)} {oc13 kV13 dc13 pm13 cd13 ct13 : Value} {f13 : Addr}
    {od14 an14 : Option Addr} {sl14 : Array (Option Value)} {oc14 kV14 dc14 pm14 cd14 ct14 : Value} {f14 : Addr}
    {od15 an15 : Option Addr} {sl15 : Array (Option Value)} {oc15 kV15 dc15 pm15 cd15 ct15 : Value} {f15 : Addr}
    {od16 an16 : Option Addr} {sl16 : Array (Option Value)} {oc16 kV16 dc16 pm16 cd16 ct16 : Value} {f16 : Addr}
    {od17 an17 : Option Addr} {sl17 : Array (Option Value)} {oc17 kV17 dc17 pm17 cd17 ct17 : Value} {f17 : Addr}
    {od18 an18 : Option Addr} {sl18 : Array (Option Value)} {oc18 kV18 dc18 pm18 cd18 ct18 : Value} {f18 : Addr}
    {od19 an19 : Option Addr} {sl19 : Array (Option Value)} {oc19 kV19 dc19 pm19 cd19 ct19 : Value} {f19 : Addr}
    {od20 an20 : Option Addr} {sl20 : Array (Option Value)} {oc20 kV20 dc20 pm20 cd20 ct20 : Value} {f20 : Addr}
    {od21 an21 : Option Addr} {sl21 : Array (Option Value)} {oc21 kV21 dc21 pm21 cd21 ct21 : Value} {f21 : Addr}
    {od22 an22 : Option Addr} {sl22 : Array (Option Value)} {oc22 kV22 dc22 pm22 cd22 ct22 : Value} {f22 : Addr}
    {od23 an23 : Option Addr} {sl23 : Array (Option Value)} {oc23 kV23 dc23 pm23 cd23 ct23 : Value} {f23 : Addr}
    {od24 an24 : Option Addr} {sl24 : Array (Option Value)} {oc24 kV24 dc24 pm24 cd24 ct24 : Value} {f24 : Addr}
    {od25 an25 : Option Addr} {sl25 : Array (Option Value)} {oc25 kV25 dc25 pm25 cd25 ct25 : Value} {f25 : Addr}
    {od26 an26 : Option Addr} {sl26 : Array (Option Value)} {oc26 kV26 dc26 pm26 cd26 ct26 : Value} {f26 : Addr}
    {od27 an27 : Option Addr} {sl27 : Array (Option Value)} {oc27 kV27 dc27 pm27 cd27 ct27 : Value} {f27 : Addr}
    {ZBadMost : Addr}
    {ZBadNumbers : Addr}
    {ZBadRow : Addr}
    {ZBadWeights : Addr}
    {ZRowError : Addr}
    {cT PT : Addr} {eT : Value} {ddT : Option Addr} {vsT : Array Value} {slT : Array (Option Value)}
    (yBadMost : PySem.W.nsIn K mainGlobals "BadMost" = some (some (.ref ZBadMost)))
    (yBadNumbers : PySem.W.nsIn K mainGlobals "BadNumbers" = some (some (.ref ZBadNumbers)))
    (yBadRow : PySem.W.nsIn K mainGlobals "BadRow" = some (some (.ref ZBadRow)))
    (yBadWeights : PySem.W.nsIn K mainGlobals "BadWeights" = some (some (.ref ZBadWeights)))
    (yRowError : PySem.W.nsIn K mainGlobals "RowError" = some (some (.ref ZRowError)))
    (ocd : PySem.W.specialIn K (.builtin "object.__class__") "__get__" = some (some (.builtin "getset_descriptor.__get__"))) (oct : PySem.W.takesIn K (.builtin "object.__class__") = some true)
    (sbRowError : PySem.W.subIn K (.ref ZRowError) (.type "BaseException") = some true) (hdRowError : PySem.W.hasDictIn K ZRowError = true) (tcRowError : PySem.W.typeIn K (.ref ZRowError) = some (.type "type"))
    (xiBadMost : PySem.W.excIn K ZBadMost [.type "ValueError", .type "Exception", .type "BaseException", .type "object"] "ValueError.__new__" = true) (kcBadMost : PySem.W.keepIn K (.ref ZBadMost) = true) (tcBadMost : PySem.W.typeIn K (.ref ZBadMost) = some (.type "type"))
    (gaBadMost : PySem.W.findIn K (.ref ZBadMost) "__getattribute__" = some (some (.builtin "BaseException.__getattribute__"))) (ggBadMost : PySem.W.findIn K (.ref ZBadMost) "__getattr__" = some none) (sbBadMost : PySem.W.subIn K (.ref ZBadMost) (.type "BaseException") = some true) (hdBadMost : PySem.W.hasDictIn K ZBadMost = true)
    (caBadMost : PySem.W.findIn K (.ref ZBadMost) "__class__" = some (some (.builtin "object.__class__"))) (mrBadMost : PySem.W.mroIn K ZBadMost (.type "object") = some true) (srBadMost : PySem.W.subIn K (.ref ZBadMost) (.ref ZRowError) = some true) (vvBadMost : PySem.W.kitOne K (.ref ZBadMost) (.type "ValueError") = some true)
    (qqBadMostBadMost : PySem.W.kitOne K (.ref ZBadMost) (.ref ZBadMost) = some true)
    (qqBadMostBadNumbers : PySem.W.kitOne K (.ref ZBadMost) (.ref ZBadNumbers) = some false)
    (qqBadMostBadRow : PySem.W.kitOne K (.ref ZBadMost) (.ref ZBadRow) = some false)
    (qqBadMostBadWeights : PySem.W.kitOne K (.ref ZBadMost) (.ref ZBadWeights) = some false)
    (xiBadNumbers : PySem.W.excIn K ZBadNumbers [.type "ValueError", .type "Exception", .type "BaseException", .type "object"] "ValueError.__new__" = true) (kcBadNumbers : PySem.W.keepIn K (.ref ZBadNumbers) = true) (tcBadNumbers : PySem.W.typeIn K (.ref ZBadNumbers) = some (.type "type"))
    (gaBadNumbers : PySem.W.findIn K (.ref ZBadNumbers) "__getattribute__" = some (some (.builtin "BaseException.__getattribute__"))) (ggBadNumbers : PySem.W.findIn K (.ref ZBadNumbers) "__getattr__" = some none) (sbBadNumbers : PySem.W.subIn K (.ref ZBadNumbers) (.type "BaseException") = some true) (hdBadNumbers : PySem.W.hasDictIn K ZBadNumbers = true)
    (caBadNumbers : PySem.W.findIn K (.ref ZBadNumbers) "__class__" = some (some (.builtin "object.__class__"))) (mrBadNumbers : PySem.W.mroIn K ZBadNumbers (.type "object") = some true) (srBadNumbers : PySem.W.subIn K (.ref ZBadNumbers) (.ref ZRowError) = some true) (vvBadNumbers : PySem.W.kitOne K (.ref ZBadNumbers) (.type "ValueError") = some true)
    (qqBadNumbersBadMost : PySem.W.kitOne K (.ref ZBadNumbers) (.ref ZBadMost) = some false)
    (qqBadNumbersBadNumbers : PySem.W.kitOne K (.ref ZBadNumbers) (.ref ZBadNumbers) = some true)
    (qqBadNumbersBadRow : PySem.W.kitOne K (.ref ZBadNumbers) (.ref ZBadRow) = some false)
    (qqBadNumbersBadWeights : PySem.W.kitOne K (.ref ZBadNumbers) (.ref ZBadWeights) = some false)
    (xiBadRow : PySem.W.excIn K ZBadRow [.type "ValueError", .type "Exception", .type "BaseException", .type "object"] "ValueError.__new__" = true) (kcBadRow : PySem.W.keepIn K (.ref ZBadRow) = true) (tcBadRow : PySem.W.typeIn K (.ref ZBadRow) = some (.type "type"))
    (gaBadRow : PySem.W.findIn K (.ref ZBadRow) "__getattribute__" = some (some (.builtin "BaseException.__getattribute__"))) (ggBadRow : PySem.W.findIn K (.ref ZBadRow) "__getattr__" = some none) (sbBadRow : PySem.W.subIn K (.ref ZBadRow) (.type "BaseException") = some true) (hdBadRow : PySem.W.hasDictIn K ZBadRow = true)
    (caBadRow : PySem.W.findIn K (.ref ZBadRow) "__class__" = some (some (.builtin "object.__class__"))) (mrBadRow : PySem.W.mroIn K ZBadRow (.type "object") = some true) (srBadRow : PySem.W.subIn K (.ref ZBadRow) (.ref ZRowError) = some true) (vvBadRow : PySem.W.kitOne K (.ref ZBadRow) (.type "ValueError") = some true)
    (qqBadRowBadMost : PySem.W.kitOne K (.ref ZBadRow) (.ref ZBadMost) = some false)
    (qqBadRowBadNumbers : PySem.W.kitOne K (.ref ZBadRow) (.ref ZBadNumbers) = some false)
    (qqBadRowBadRow : PySem.W.kitOne K (.ref ZBadRow) (.ref ZBadRow) = some true)
    (qqBadRowBadWeights : PySem.W.kitOne K (.ref ZBadRow) (.ref ZBadWeights) = some false)
    (xiBadWeights : PySem.W.excIn K ZBadWeights [.type "ValueError", .type "Exception", .type "BaseException", .type "object"] "ValueError.__new__" = true) (kcBadWeights : PySem.W.keepIn K (.ref ZBadWeights) = true) (tcBadWeights : PySem.W.typeIn K (.ref ZBadWeights) = some (.type "type"))
    (gaBadWeights : PySem.W.findIn K (.ref ZBadWeights) "__getattribute__" = some (some (.builtin "BaseException.__getattribute__"))) (ggBadWeights : PySem.W.findIn K (.ref ZBadWeights) "__getattr__" = some none) (sbBadWeights : PySem.W.subIn K (.ref ZBadWeights) (.type "BaseException") = some true) (hdBadWeights : PySem.W.hasDictIn K ZBadWeights = true)
    (caBadWeights : PySem.W.findIn K (.ref ZBadWeights) "__class__" = some (some (.builtin "object.__class__"))) (mrBadWeights : PySem.W.mroIn K ZBadWeights (.type "object") = some true) (srBadWeights : PySem.W.subIn K (.ref ZBadWeights) (.ref ZRowError) = some true) (vvBadWeights : PySem.W.kitOne K (.ref ZBadWeights) (.type "ValueError") = some true)
    (qqBadWeightsBadMost : PySem.W.kitOne K (.ref ZBadWeights) (.ref ZBadMost) = some false)
    (qqBadWeightsBadNumbers : PySem.W.kitOne K (.ref ZBadWeights) (.ref ZBadNumbers) = some false)
    (qqBadWeightsBadRow : PySem.W.kitOne K (.ref ZBadWeights) (.ref ZBadRow) = some false)
    (qqBadWeightsBadWeights : PySem.W.kitOne K (.ref ZBadWeights) (.ref ZBadWeights) = some true)
    (a1 : PySem.W.nsIn K mainGlobals "is_number" = some (some (.ref f1))) (l1 : K.lookup f1 = some ⟨oc1, od1, .func (PySem.W.fnOf "is_number" "is_number" (defArgs s_is_number) (defBody s_is_number) (defScope s_is_number) .none kV1 dc1 pm1 an1 cd1 ct1), sl1⟩) (c1 : PySem.W.codeIn K cd1 "is_number" = true) (k1 : PySem.W.keepIn K (.ref f1) = true)
    (a2 : PySem.W.nsIn K mainGlobals "common" = some (some (.ref f2))) (l2 : K.lookup f2 = some ⟨oc2, od2, .func (PySem.W.fnOf "common" "common" (defArgs s_common) (defBody s_common) (defScope s_common) .none kV2 dc2 pm2 an2 cd2 ct2), sl2⟩) (c2 : PySem.W.codeIn K cd2 "common" = true) (k2 : PySem.W.keepIn K (.ref f2) = true)
    (a3 : PySem.W.nsIn K mainGlobals "is_fraction" = some (some (.ref f3))) (l3 : K.lookup f3 = some ⟨oc3, od3, .func (PySem.W.fnOf "is_fraction" "is_fraction" (defArgs s_is_fraction) (defBody s_is_fraction) (defScope s_is_fraction) .none kV3 dc3 pm3 an3 cd3 ct3), sl3⟩) (c3 : PySem.W.codeIn K cd3 "is_fraction" = true) (k3 : PySem.W.keepIn K (.ref f3) = true)
    (a4 : PySem.W.nsIn K mainGlobals "are_numbers" = some (some (.ref f4))) (l4 : K.lookup f4 = some ⟨oc4, od4, .func (PySem.W.fnOf "are_numbers" "are_numbers" (defArgs s_are_numbers) (defBody s_are_numbers) (defScope s_are_numbers) .none kV4 dc4 pm4 an4 cd4 ct4), sl4⟩) (c4 : PySem.W.codeIn K cd4 "are_numbers" = true) (k4 : PySem.W.keepIn K (.ref f4) = true)
    (a5 : PySem.W.nsIn K mainGlobals "check_numbers" = some (some (.ref f5))) (l5 : K.lookup f5 = some ⟨oc5, od5, .func (PySem.W.fnOf "check_numbers" "check_numbers" (defArgs s_check_numbers) (defBody s_check_numbers) (defScope s_check_numbers) .none kV5 dc5 pm5 an5 cd5 ct5), sl5⟩) (c5 : PySem.W.codeIn K cd5 "check_numbers" = true) (k5 : PySem.W.keepIn K (.ref f5) = true)
    (a6 : PySem.W.nsIn K mainGlobals "check_row" = some (some (.ref f6))) (l6 : K.lookup f6 = some ⟨oc6, od6, .func (PySem.W.fnOf "check_row" "check_row" (defArgs s_check_row) (defBody s_check_row) (defScope s_check_row) .none kV6 dc6 pm6 an6 cd6 ct6), sl6⟩) (c6 : PySem.W.codeIn K cd6 "check_row" = true) (k6 : PySem.W.keepIn K (.ref f6) = true)
    (a7 : PySem.W.nsIn K mainGlobals "check_weights" = some (some (.ref f7))) (l7 : K.lookup f7 = some ⟨oc7, od7, .func (PySem.W.fnOf "check_weights" "check_weights" (defArgs s_check_weights) (defBody s_check_weights) (defScope s_check_weights) .none kV7 dc7 pm7 an7 cd7 ct7), sl7⟩) (c7 : PySem.W.codeIn K cd7 "check_weights" = true) (k7 : PySem.W.keepIn K (.ref f7) = true)
    (a8 : PySem.W.nsIn K mainGlobals "greatest" = some (some (.ref f8))) (l8 : K.lookup f8 = some ⟨oc8, od8, .func (PySem.W.fnOf "greatest" "greatest" (defArgs s_greatest) (defBody s_greatest) (defScope s_greatest) .none kV8 dc8 pm8 an8 cd8 ct8), sl8⟩) (c8 : PySem.W.codeIn K cd8 "greatest" = true) (k8 : PySem.W.keepIn K (.ref f8) = true)
    (a9 : PySem.W.nsIn K mainGlobals "summed_up" = some (some (.ref f9))) (l9 : K.lookup f9 = some ⟨oc9, od9, .func (PySem.W.fnOf "summed_up" "summed_up" (defArgs s_summed_up) (defBody s_summed_up) (defScope s_summed_up) .none kV9 dc9 pm9 an9 cd9 ct9), sl9⟩) (c9 : PySem.W.codeIn K cd9 "summed_up" = true) (k9 : PySem.W.keepIn K (.ref f9) = true)
    (a10 : PySem.W.nsIn K mainGlobals "squares" = some (some (.ref f10))) (l10 : K.lookup f10 = some ⟨oc10, od10, .func (PySem.W.fnOf "squares" "squares" (defArgs s_squares) (defBody s_squares) (defScope s_squares) .none kV10 dc10 pm10 an10 cd10 ct10), sl10⟩) (c10 : PySem.W.codeIn K cd10 "squares" = true) (k10 : PySem.W.keepIn K (.ref f10) = true)
    (a11 : PySem.W.nsIn K mainGlobals "evened" = some (some (.ref f11))) (l11 : K.lookup f11 = some ⟨oc11, od11, .func (PySem.W.fnOf "evened" "evened" (defArgs s_evened) (defBody s_evened) (defScope s_evened) .none kV11 dc11 pm11 an11 cd11 ct11), sl11⟩) (c11 : PySem.W.codeIn K cd11 "evened" = true) (k11 : PySem.W.keepIn K (.ref f11) = true)
    (a12 : PySem.W.nsIn K mainGlobals "median" = some (some (.ref f12))) (l12 : K.lookup f12 = some ⟨oc12, od12, .func (PySem.W.fnOf "median" "median" (defArgs s_median) (defBody s_median) (defScope s_median) .none kV12 dc12 pm12 an12 cd12 ct12), sl12⟩) (c12 : PySem.W.codeIn K cd12 "median" = true) (k12 : PySem.W.keepIn K (.ref f12) = true)
    (a13 : PySem.W.nsIn K mainGlobals "summed" = some (some (.ref f13))) (l13 : K.lookup f13 = some ⟨oc13, od13, .func (PySem.W.fnOf "summed" "summed" (defArgs s_summed) (defBody s_summed) (defScope s_summed) .none kV13 dc13 pm13 an13 cd13 ct13), sl13⟩) (c13 : PySem.W.codeIn K cd13 "summed" = true) (k13 : PySem.W.keepIn K (.ref f13) = true)
    (a14 : PySem.W.nsIn K mainGlobals "squared" = some (some (.ref f14))) (l14 : K.lookup f14 = some ⟨oc14, od14, .func (PySem.W.fnOf "squared" "squared" (defArgs s_squared) (defBody s_squared) (defScope s_squared) .none kV14 dc14 pm14 an14 cd14 ct14), sl14⟩) (c14 : PySem.W.codeIn K cd14 "squared" = true) (k14 : PySem.W.keepIn K (.ref f14) = true)
    (a15 : PySem.W.nsIn K mainGlobals "upper" = some (some (.ref f15))) (l15 : K.lookup f15 = some ⟨oc15, od15, .func (PySem.W.fnOf "upper" "upper" (defArgs s_upper) (defBody s_upper) (defScope s_upper) .none kV15 dc15 pm15 an15 cd15 ct15), sl15⟩) (c15 : PySem.W.codeIn K cd15 "upper" = true) (k15 : PySem.W.keepIn K (.ref f15) = true)
    (a16 : PySem.W.nsIn K mainGlobals "lower" = some (some (.ref f16))) (l16 : K.lookup f16 = some ⟨oc16, od16, .func (PySem.W.fnOf "lower" "lower" (defArgs s_lower) (defBody s_lower) (defScope s_lower) .none kV16 dc16 pm16 an16 cd16 ct16), sl16⟩) (c16 : PySem.W.codeIn K cd16 "lower" = true) (k16 : PySem.W.keepIn K (.ref f16) = true)
    (a17 : PySem.W.nsIn K mainGlobals "band" = some (some (.ref f17))) (l17 : K.lookup f17 = some ⟨oc17, od17, .func (PySem.W.fnOf "band" "band" (defArgs s_band) (defBody s_band) (defScope s_band) .none kV17 dc17 pm17 an17 cd17 ct17), sl17⟩) (c17 : PySem.W.codeIn K cd17 "band" = true) (k17 : PySem.W.keepIn K (.ref f17) = true)
    (a18 : PySem.W.nsIn K mainGlobals "_law_ask" = some (some (.ref f18))) (l18 : K.lookup f18 = some ⟨oc18, od18, .func (PySem.W.fnOf "_law_ask" "_law_ask" (defArgs s__law_ask) (defBody s__law_ask) (defScope s__law_ask) .none kV18 dc18 pm18 an18 cd18 ct18), sl18⟩) (c18 : PySem.W.codeIn K cd18 "_law_ask" = true) (k18 : PySem.W.keepIn K (.ref f18) = true)
    (a19 : PySem.W.nsIn K mainGlobals "_law_more" = some (some (.ref f19))) (l19 : K.lookup f19 = some ⟨oc19, od19, .func (PySem.W.fnOf "_law_more" "_law_more" (defArgs s__law_more) (defBody s__law_more) (defScope s__law_more) .none kV19 dc19 pm19 an19 cd19 ct19), sl19⟩) (c19 : PySem.W.codeIn K cd19 "_law_more" = true) (k19 : PySem.W.keepIn K (.ref f19) = true)
    (a20 : PySem.W.nsIn K mainGlobals "_law_rows" = some (some (.ref f20))) (l20 : K.lookup f20 = some ⟨oc20, od20, .func (PySem.W.fnOf "_law_rows" "_law_rows" (defArgs s__law_rows) (defBody s__law_rows) (defScope s__law_rows) .none kV20 dc20 pm20 an20 cd20 ct20), sl20⟩) (c20 : PySem.W.codeIn K cd20 "_law_rows" = true) (k20 : PySem.W.keepIn K (.ref f20) = true)
    (a21 : PySem.W.nsIn K mainGlobals "_law_due" = some (some (.ref f21))) (l21 : K.lookup f21 = some ⟨oc21, od21, .func (PySem.W.fnOf "_law_due" "_law_due" (defArgs s__law_due) (defBody s__law_due) (defScope s__law_due) .none kV21 dc21 pm21 an21 cd21 ct21), sl21⟩) (c21 : PySem.W.codeIn K cd21 "_law_due" = true) (k21 : PySem.W.keepIn K (.ref f21) = true)
    (a22 : PySem.W.nsIn K mainGlobals "_law_bad_numbers" = some (some (.ref f22))) (l22 : K.lookup f22 = some ⟨oc22, od22, .func (PySem.W.fnOf "_law_bad_numbers" "_law_bad_numbers" (defArgs s__law_bad_numbers) (defBody s__law_bad_numbers) (defScope s__law_bad_numbers) .none kV22 dc22 pm22 an22 cd22 ct22), sl22⟩) (c22 : PySem.W.codeIn K cd22 "_law_bad_numbers" = true) (k22 : PySem.W.keepIn K (.ref f22) = true)
    (a23 : PySem.W.nsIn K mainGlobals "_law_bad_weights" = some (some (.ref f23))) (l23 : K.lookup f23 = some ⟨oc23, od23, .func (PySem.W.fnOf "_law_bad_weights" "_law_bad_weights" (defArgs s__law_bad_weights) (defBody s__law_bad_weights) (defScope s__law_bad_weights) .none kV23 dc23 pm23 an23 cd23 ct23), sl23⟩) (c23 : PySem.W.codeIn K cd23 "_law_bad_weights" = true) (k23 : PySem.W.keepIn K (.ref f23) = true)
    (a24 : PySem.W.nsIn K mainGlobals "_law_bad_rows" = some (some (.ref f24))) (l24 : K.lookup f24 = some ⟨oc24, od24, .func (PySem.W.fnOf "_law_bad_rows" "_law_bad_rows" (defArgs s__law_bad_rows) (defBody s__law_bad_rows) (defScope s__law_bad_rows) .none kV24 dc24 pm24 an24 cd24 ct24), sl24⟩) (c24 : PySem.W.codeIn K cd24 "_law_bad_rows" = true) (k24 : PySem.W.keepIn K (.ref f24) = true)
    (a25 : PySem.W.nsIn K mainGlobals "_law_bad_fractions" = some (some (.ref f25))) (l25 : K.lookup f25 = some ⟨oc25, od25, .func (PySem.W.fnOf "_law_bad_fractions" "_law_bad_fractions" (defArgs s__law_bad_fractions) (defBody s__law_bad_fractions) (defScope s__law_bad_fractions) .none kV25 dc25 pm25 an25 cd25 ct25), sl25⟩) (c25 : PySem.W.codeIn K cd25 "_law_bad_fractions" = true) (k25 : PySem.W.keepIn K (.ref f25) = true)
    (a26 : PySem.W.nsIn K mainGlobals "_law_bad_mosts" = some (some (.ref f26))) (l26 : K.lookup f26 = some ⟨oc26, od26, .func (PySem.W.fnOf "_law_bad_mosts" "_law_bad_mosts" (defArgs s__law_bad_mosts) (defBody s__law_bad_mosts) (defScope s__law_bad_mosts) .none kV26 dc26 pm26 an26 cd26 ct26), sl26⟩) (c26 : PySem.W.codeIn K cd26 "_law_bad_mosts" = true) (k26 : PySem.W.keepIn K (.ref f26) = true)
    (a27 : PySem.W.nsIn K mainGlobals "law" = some (some (.ref f27))) (l27 : K.lookup f27 = some ⟨oc27, od27, .func (PySem.W.fnOf "law" "law" (defArgs s_law) (defBody s_law) (defScope s_law) .none kV27 dc27 pm27 an27 cd27 ct27), sl27⟩) (c27 : PySem.W.codeIn K cd27 "law" = true) (k27 : PySem.W.keepIn K (.ref f27) = true)
    (z1 : PySem.W.nsIn K mainGlobals "ValueError" = some none)
    (z2 : PySem.W.nsIn K mainGlobals "abs" = some none)
    (z3 : PySem.W.nsIn K mainGlobals "all" = some none)
    (z4 : PySem.W.nsIn K mainGlobals "bool" = some none)
    (z5 : PySem.W.nsIn K mainGlobals "int" = some none)
    (z6 : PySem.W.nsIn K mainGlobals "isinstance" = some none)
    (z7 : PySem.W.nsIn K mainGlobals "len" = some none)
    (z8 : PySem.W.nsIn K mainGlobals "list" = some none)
    (z9 : PySem.W.nsIn K mainGlobals "range" = some none)
    (z10 : PySem.W.nsIn K mainGlobals "sorted" = some none)
    (z11 : PySem.W.nsIn K mainGlobals "sum" = some none)
    (z12 : PySem.W.nsIn K mainGlobals "tuple" = some none)
    (tabC : cd12 = .ref cT) (tabL : K.lookup cT = some ⟨eT, ddT, .fields vsT, slT⟩) (tabV : vsT[11]? = some (.ref PT)) (tabN : K.lookup PT = none) :
    ∃ (fd : FuncData) (c P : Addr), PySem.W.tabIn K "median" = some (c, P) ∧ K.lookup P = none ∧ (∀ (s : Shared) (v : Value), BindsTo s fd ⟨[v], []⟩ [("_law_script", v)]) ∧ ∀ base : Heap, K.In base → base.Ns mainGlobals mg → LamX.TabB base mg c P → FnOk l.prog w K mg base CX0 8 fa fd ["_law_script"] (spR K 1 R_law) := by
  have e := hfa.symm.trans (PySem.W.mg_of X G a27)
  cases e
  have F1 := fun_mk (st := s_is_number) l1 c1 k1
  have F2 := fun_mk (st := s_common) l2 c2 k2
  have F3 := fun_mk (st := s_is_fraction) l3 c3 k3
  have F4 := fun_mk (st := s_are_numbers) l4 c4 k4
  have F5 := fun_mk (st := s_check_numbers) l5 c5 k5
  have F6 := fun_mk (st := s_check_row) l6 c6 k6
  have F7 := fun_mk (st := s_check_weights) l7 c7 k7
  have F8 := fun_mk (st := s_greatest) l8 c8 k8
  have F9 := fun_mk (st := s_summed_up) l9 c9 k9
  have F10 := fun_mk (st := s_squares) l10 c10 k10
  have F11 := fun_mk (st := s_evened) l11 c11 k11
  have F12 := fun_mk (st := s_median) l12 c12 k12
  have F13 := fun_mk (st := s_summed) l13 c13 k13
  have F14 := fun_mk (st := s_squared) l14 c14 k14
  have F15 := fun_mk (st := s_upper) l15 c15 k15
  have F16 := fun_mk (st := s_lower) l16 c16 k16
  have F17 := fun_mk (st := s_band) l17 c17 k17
  have F18 := fun_mk (st := s__law_ask) l18 c18 k18
  have F19 := fun_mk (st := s__law_more) l19 c19 k19
  have F20 := fun_mk (st := s__law_rows) l20 c20 k20
  have F21 := fun_mk (st := s__law_due) l21 c21 k21
  have F22 := fun_mk (st := s__law_bad_numbers) l22 c22 k22
  have F23 := fun_mk (st := s__law_bad_weights) l23 c23 k23
  have F24 := fun_mk (st := s__law_bad_rows) l24 c24 k24
  have F25 := fun_mk (st := s__law_bad_fractions) l25 c25 k25
  have F26 := fun_mk (st := s__law_bad_mosts) l26 c26 k26
  have F27 := fun_mk (st := s_law) l27 c27 k27
  have tabI := tabIn_of a12 l12 tabC tabL tabV
  have b1 := F1.binds (ps := ["thing"]) fun _ _ _ _ _ _ us hl => match us, hl with | [_], _ => rfl
  have b2 := F2.binds (ps := ["one", "other"]) fun _ _ _ _ _ _ us hl => match us, hl with | [_, _], _ => rfl
  have b3 := F3.binds (ps := ["thing"]) fun _ _ _ _ _ _ us hl => match us, hl with | [_], _ => rfl
  have b4 := F4.binds (ps := ["thing"]) fun _ _ _ _ _ _ us hl => match us, hl with | [_], _ => rfl
  have b5 := F5.binds (ps := ["numbers"]) fun _ _ _ _ _ _ us hl => match us, hl with | [_], _ => rfl
  have b6 := F6.binds (ps := ["numbers", "row"]) fun _ _ _ _ _ _ us hl => match us, hl with | [_, _], _ => rfl
  have b7 := F7.binds (ps := ["numbers", "weights"]) fun _ _ _ _ _ _ us hl => match us, hl with | [_, _], _ => rfl
  have b8 := F8.binds (ps := ["numbers", "row"]) fun _ _ _ _ _ _ us hl => match us, hl with | [_, _], _ => rfl
  have b9 := F9.binds (ps := ["numbers", "row", "weights"]) fun _ _ _ _ _ _ us hl => match us, hl with | [_, _, _], _ => rfl
  have b10 := F10.binds (ps := ["numbers", "row", "weights"]) fun _ _ _ _ _ _ us hl => match us, hl with | [_, _, _], _ => rfl
  have b11 := F11.binds (ps := ["numbers"]) fun _ _ _ _ _ _ us hl => match us, hl with | [_], _ => rfl
  have b12 := F12.binds (ps := ["numbers", "weights", "places"]) fun _ _ _ _ _ _ us hl => match us, hl with | [_, _, _], _ => rfl
  have b13 := F13.binds (ps := ["numbers", "weights"]) fun _ _ _ _ _ _ us hl => match us, hl with | [_, _], _ => rfl
  have b14 := F14.binds (ps := ["numbers", "weights"]) fun _ _ _ _ _ _ us hl => match us, hl with | [_, _], _ => rfl
  have b15 := F15.binds (ps := ["numbers"]) fun _ _ _ _ _ _ us hl => match us, hl with | [_], _ => rfl
  have b16 := F16.binds (ps := ["numbers"]) fun _ _ _ _ _ _ us hl => match us, hl with | [_], _ => rfl
  have b17 := F17.binds (ps := ["numbers", "most"]) fun _ _ _ _ _ _ us hl => match us, hl with | [_, _], _ => rfl
  have b18 := F18.binds (ps := ["_law_door", "_law_thing"]) fun _ _ _ _ _ _ us hl => match us, hl with | [_, _], _ => rfl
  have b19 := F19.binds (ps := ["_law_door", "_law_thing"]) fun _ _ _ _ _ _ us hl => match us, hl with | [_, _], _ => rfl
  have b20 := F20.binds (ps := ["_law_door", "_law_thing"]) fun _ _ _ _ _ _ us hl => match us, hl with | [_, _], _ => rfl
  have b21 := F21.binds (ps := ["_law_door", "_law_thing", "_law_due_here"]) fun _ _ _ _ _ _ us hl => match us, hl with | [_, _, _], _ => rfl
  have b22 := F22.binds (ps := ["_law_cell"]) fun _ _ _ _ _ _ us hl => match us, hl with | [_], _ => rfl
  have b23 := F23.binds (ps := ["_law_cell"]) fun _ _ _ _ _ _ us hl => match us, hl with | [_], _ => rfl
  have b24 := F24.binds (ps := ["_law_cell"]) fun _ _ _ _ _ _ us hl => match us, hl with | [_], _ => rfl
  have b25 := F25.binds (ps := ["_law_cell"]) fun _ _ _ _ _ _ us hl => match us, hl with | [_], _ => rfl
  have b26 := F26.binds (ps := ["_law_cell"]) fun _ _ _ _ _ _ us hl => match us, hl with | [_], _ => rfl
  have b27 := F27.binds (ps := ["_law_script"]) fun _ _ _ _ _ _ us hl => match us, hl with | [_], _ => rfl
  exact ⟨PySem.W.fnOf "law" "law" (defArgs s_law) (defBody s_law) (defScope s_law) .none kV27 dc27 pm27 an27 cd27 ct27, _, _, tabI, tabN, fun s v => .of_eq rfl, fun base _ _ TB => ok_law (⟨f1, _, F1, PySem.W.mg_of X G a1, b1, f2, _, F2, PySem.W.mg_of X G a2, b2, f3, _, F3, PySem.W.mg_of X G a3, b3, f4, _, F4, PySem.W.mg_of X G a4, b4, f5, _, F5, PySem.W.mg_of X G a5, b5, f6, _, F6, PySem.W.mg_of X G a6, b6, f7, _, F7, PySem.W.mg_of X G a7, b7, f8, _, F8, PySem.W.mg_of X G a8, b8, f9, _, F9, PySem.W.mg_of X G a9, b9, f10, _, F10, PySem.W.mg_of X G a10, b10, f11, _, F11, PySem.W.mg_of X G a11, b11, f12, _, F12, PySem.W.mg_of X G a12, b12, f13, _, F13, PySem.W.mg_of X G a13, b13, f14, _, F14, PySem.W.mg_of X G a14, b14, f15, _, F15, PySem.W.mg_of X G a15, b15, f16, _, F16, PySem.W.mg_of X G a16, b16, f17, _, F17, PySem.W.mg_of X G a17, b17, f18, _, F18, PySem.W.mg_of X G a18, b18, f19, _, F19, PySem.W.mg_of X G a19, b19, f20, _, F20, PySem.W.mg_of X G a20, b20, f21, _, F21, PySem.W.mg_of X G a21, b21, f22, _, F22, PySem.W.mg_of X G a22, b22, f23, _, F23, PySem.W.mg_of X G a23, b23, f24, _, F24, PySem.W.mg_of X G a24, b24, f25, _, F25, PySem.W.mg_of X G a25, b25, f26, _, F26, PySem.W.mg_of X G a26, b26, fa, _, F27, PySem.W.mg_of X G a27, b27, PySem.W.mg_none_of X G z1, PySem.W.mg_none_of X G z2, PySem.W.mg_none_of X G z3, PySem.W.mg_none_of X G z4, PySem.W.mg_none_of X G z5, PySem.W.mg_none_of X G z6, PySem.W.mg_none_of X G z7, PySem.W.mg_none_of X G z8, PySem.W.mg_none_of X G z9, PySem.W.mg_none_of X G z10, PySem.W.mg_none_of X G z11, PySem.W.mg_none_of X G z12, ZBadMost, PySem.W.mg_of X G yBadMost, ZBadNumbers, PySem.W.mg_of X G yBadNumbers, ZBadRow, PySem.W.mg_of X G yBadRow, ZBadWeights, PySem.W.mg_of X G yBadWeights, ZRowError, PySem.W.mg_of X G yRowError, cT, PT, tabI, TB, a12, ⟨xiBadMost, kcBadMost, tcBadMost, ⟨gaBadMost, ggBadMost, sbBadMost, hdBadMost, caBadMost, ocd, oct, mrBadMost⟩⟩, ⟨xiBadNumbers, kcBadNumbers, tcBadNumbers, ⟨gaBadNumbers, ggBadNumbers, sbBadNumbers, hdBadNumbers, caBadNumbers, ocd, oct, mrBadNumbers⟩⟩, ⟨xiBadRow, kcBadRow, tcBadRow, ⟨gaBadRow, ggBadRow, sbBadRow, hdBadRow, caBadRow, ocd, oct, mrBadRow⟩⟩, ⟨xiBadWeights, kcBadWeights, tcBadWeights, ⟨gaBadWeights, ggBadWeights, sbBadWeights, hdBadWeights, caBadWeights, ocd, oct, mrBadWeights⟩⟩, PySem.W.exm_ref sbRowError hdRowError tcRowError srBadMost, vvBadMost, qqBadMostBadMost, qqBadMostBadNumbers, qqBadMostBadRow, qqBadMostBadWeights, PySem.W.exm_ref sbRowError hdRowError tcRowError srBadNumbers, vvBadNumbers, qqBadNumbersBadMost, qqBadNumbersBadNumbers, qqBadNumbersBadRow, qqBadNumbersBadWeights, PySem.W.exm_ref sbRowError hdRowError tcRowError srBadRow, vvBadRow, qqBadRowBadMost, qqBadRowBadNumbers, qqBadRowBadRow, qqBadRowBadWeights, PySem.W.exm_ref sbRowError hdRowError tcRowError srBadWeights, vvBadWeights, qqBadWeightsBadMost, qqBadWeightsBadNumbers, qqBadWeightsBadRow, qqBadWeightsBadWeights⟩ : Tx K mg base)⟩
end U
open PySem PySem.W PyProof.Rows
set_option maxHeartbeats 0 in
theorem PySem.Challenge.cw_uprow_k08_refused_holds : PySem.Challenge.rw_uprow_k08_refused.Holds := by
  w_on; o_law; k_head; (case hw => w_witness2)
  k_fill
  refine DL.walk_ofL (l := PySem.Challenge.rw_uprow_k08_refused) (n := 63) (k := 8) (x := "_law_script") (CX := fun _ => L2.CX0) (sp := fun K => DL.spR K 1 U.R_law) rfl (by decide) rfl ⟨rfl, by decide, by decide⟩ (by decide +kernel) (fun w h Y => by first | exact PySem.W.km_in_of Y | exact PySem.W.kIn_of Y) ?F (DL.goes_ofL U.law_goes) (fun _ _ _ _ _ h => h)
  case F =>
    intro w mg fa h KX G hmg
    refine' U.all_mk KX G hmg ?yBadMost ?yBadNumbers ?yBadRow ?yBadWeights ?yRowError ?ocd ?oct ?sbRowError ?hdRowError ?tcRowError ?xiBadMost ?kcBadMost ?tcBadMost ?gaBadMost ?ggBadMost ?sbBadMost ?hdBadMost ?caBadMost ?mrBadMost ?srBadMost ?vvBadMost ?qqBadMostBadMost ?qqBadMostBadNumbers ?qqBadMostBadRow ?qqBadMostBadWeights ?xiBadNumbers ?kcBadNumbers ?tcBadNumbers ?gaBadNumbers ?ggBadNumbers ?sbBadNumbers ?hdBadNumbers ?caBadNumbers ?mrBadNumbers ?srBadNumbers ?vvBadNumbers ?qqBadNumbersBadMost ?qqBadNumbersBadNumbers ?qqBadNumbersBadRow ?qqBadNumbersBadWeights ?xiBadRow ?kcBadRow ?tcBadRow ?gaBadRow ?ggBadRow ?sbBadRow ?hdBadRow ?caBadRow ?mrBadRow ?srBadRow ?vvBadRow ?qqBadRowBadMost ?qqBadRowBadNumbers ?qqBadRowBadRow ?qqBadRowBadWeights ?xiBadWeights ?kcBadWeights ?tcBadWeights ?gaBadWeights ?ggBadWeights ?sbBadWeights ?hdBadWeights ?caBadWeights ?mrBadWeights ?srBadWeights ?vvBadWeights ?qqBadWeightsBadMost ?qqBadWeightsBadNumbers ?qqBadWeightsBadRow ?qqBadWeightsBadWeights ?a1 ?l1 ?c1 ?k1 ?a2 ?l2 ?c2 ?k2 ?a3 ?l3 ?c3 ?k3 ?a4 ?l4 ?c4 ?k4 ?a5 ?l5 ?c5 ?k5 ?a6 ?l6 ?c6 ?k6 ?a7 ?l7 ?c7 ?k7 ?a8 ?l8 ?c8 ?k8 ?a9 ?l9 ?c9 ?k9 ?a10 ?l10 ?c10 ?k10 ?a11 ?l11 ?c11 ?k11 ?a12 ?l12 ?c12 ?k12 ?a13 ?l13 ?c13 ?k13 ?a14 ?l14 ?c14 ?k14 ?a15 ?l15 ?c15 ?k15 ?a16 ?l16 ?c16 ?k16 ?a17 ?l17 ?c17 ?k17 ?a18 ?l18 ?c18 ?k18 ?a19 ?l19 ?c19 ?k19 ?a20 ?l20 ?c20 ?k20 ?a21 ?l21 ?c21 ?k21 ?a22 ?l22 ?c22 ?k22 ?a23 ?l23 ?c23 ?k23 ?a24 ?l24 ?c24 ?k24 ?a25 ?l25 ?c25 ?k25 ?a26 ?l26 ?c26 ?k26 ?a27 ?l27 ?c27 ?k27 ?z1 ?z2 ?z3 ?z4 ?z5 ?z6 ?z7 ?z8 ?z9 ?z10 ?z11 ?z12 ?tabC ?tabL ?tabV ?tabN
    (case yBadMost => k_is)
    (case yBadNumbers => k_is)
    (case yBadRow => k_is)
    (case yBadWeights => k_is)
    (case yRowError => k_is)
    (case ocd => k_is)
    (case oct => k_is)
    (case sbRowError => k_is)
    (case hdRowError => k_is)
    (case tcRowError => k_is)
    (case xiBadMost => k_exc)
    (case kcBadMost => k_is)
    (case tcBadMost => k_is)
    (case gaBadMost => k_is)
    (case ggBadMost => k_is)
    (case sbBadMost => k_is)
    (case hdBadMost => k_is)
    (case caBadMost => k_is)
    (case mrBadMost => k_is)
    (case srBadMost => k_is)
    (case vvBadMost => kit_is)
    (case qqBadMostBadMost => kit_is)
    (case qqBadMostBadNumbers => kit_is)
    (case qqBadMostBadRow => kit_is)
    (case qqBadMostBadWeights => kit_is)
    (case xiBadNumbers => k_exc)
    (case kcBadNumbers => k_is)
    (case tcBadNumbers => k_is)
    (case gaBadNumbers => k_is)
    (case ggBadNumbers => k_is)
    (case sbBadNumbers => k_is)
    (case hdBadNumbers => k_is)
    (case caBadNumbers => k_is)
    (case mrBadNumbers => k_is)
    (case srBadNumbers => k_is)
    (case vvBadNumbers => kit_is)
    (case qqBadNumbersBadMost => kit_is)
    (case qqBadNumbersBadNumbers => kit_is)
    (case qqBadNumbersBadRow => kit_is)
    (case qqBadNumbersBadWeights => kit_is)
    (case xiBadRow => k_exc)
    (case kcBadRow => k_is)
    (case tcBadRow => k_is)
    (case gaBadRow => k_is)
    (case ggBadRow => k_is)
    (case sbBadRow => k_is)
    (case hdBadRow => k_is)
    (case caBadRow => k_is)
    (case mrBadRow => k_is)
    (case srBadRow => k_is)
    (case vvBadRow => kit_is)
    (case qqBadRowBadMost => kit_is)
    (case qqBadRowBadNumbers => kit_is)
    (case qqBadRowBadRow => kit_is)
    (case qqBadRowBadWeights => kit_is)
    (case xiBadWeights => k_exc)
    (case kcBadWeights => k_is)
    (case tcBadWeights => k_is)
    (case gaBadWeights => k_is)
    (case ggBadWeights => k_is)
    (case sbBadWeights => k_is)
    (case hdBadWeights => k_is)
    (case caBadWeights => k_is)
    (case mrBadWeights => k_is)
    (case srBadWeights => k_is)
    (case vvBadWeights => kit_is)
    (case qqBadWeightsBadMost => kit_is)
    (case qqBadWeightsBadNumbers => kit_is)
    (case qqBadWeightsBadRow => kit_is)
    (case qqBadWeightsBadWeights => kit_is)
    (case a1 => k_is)
    (case l1 => k_is)
    (case c1 => k_is)
    (case k1 => k_is)
    (case a2 => k_is)
    (case l2 => k_is)
    (case c2 => k_is)
    (case k2 => k_is)
    (case a3 => k_is)
    (case l3 => k_is)
    (case c3 => k_is)
    (case k3 => k_is)
    (case a4 => k_is)
    (case l4 => k_is)
    (case c4 => k_is)
    (case k4 => k_is)
    (case a5 => k_is)
    (case l5 => k_is)
    (case c5 => k_is)
    (case k5 => k_is)
    (case a6 => k_is)
    (case l6 => k_is)
    (case c6 => k_is)
    (case k6 => k_is)
    (case a7 => k_is)
    (case l7 => k_is)
    (case c7 => k_is)
    (case k7 => k_is)
    (case a8 => k_is)
    (case l8 => k_is)
    (case c8 => k_is)
    (case k8 => k_is)
    (case a9 => k_is)
    (case l9 => k_is)
    (case c9 => k_is)
    (case k9 => k_is)
    (case a10 => k_is)
    (case l10 => k_is)
    (case c10 => k_is)
    (case k10 => k_is)
    (case a11 => k_is)
    (case l11 => k_is)
    (case c11 => k_is)
    (case k11 => k_is)
    (case a12 => k_is)
    (case l12 => k_is)
    (case c12 => k_is)
    (case k12 => k_is)
    (case a13 => k_is)
    (case l13 => k_is)
    (case c13 => k_is)
    (case k13 => k_is)
    (case a14 => k_is)
    (case l14 => k_is)
    (case c14 => k_is)
    (case k14 => k_is)
    (case a15 => k_is)
    (case l15 => k_is)
    (case c15 => k_is)
    (case k15 => k_is)
    (case a16 => k_is)
    (case l16 => k_is)
    (case c16 => k_is)
    (case k16 => k_is)
    (case a17 => k_is)
    (case l17 => k_is)
    (case c17 => k_is)
    (case k17 => k_is)
    (case a18 => k_is)
    (case l18 => k_is)
    (case c18 => k_is)
    (case k18 => k_is)
    (case a19 => k_is)
    (case l19 => k_is)
    (case c19 => k_is)
    (case k19 => k_is)
    (case a20 => k_is)
    (case l20 => k_is)
    (case c20 => k_is)
    (case k20 => k_is)
    (case a21 => k_is)
    (case l21 => k_is)
    (case c21 => k_is)
    (case k21 => k_is)
    (case a22 => k_is)
    (case l22 => k_is)
    (case c22 => k_is)
    (case k22 => k_is)
    (case a23 => k_is)
    (case l23 => k_is)
    (case c23 => k_is)
    (case k23 => k_is)
    (case a24 => k_is)
    (case l24 => k_is)
    (case c24 => k_is)
    (case k24 => k_is)
    (case a25 => k_is)
    (case l25 => k_is)
    (case c25 => k_is)
    (case k25 => k_is)
    (case a26 => k_is)
    (case l26 => k_is)
    (case c26 => k_is)
    (case k26 => k_is)
    (case a27 => k_is)
    (case l27 => k_is)
    (case c27 => k_is)
    (case k27 => k_is)
    (case z1 => k_is)
    (case z2 => k_is)
    (case z3 => k_is)
    (case z4 => k_is)
    (case z5 => k_is)
    (case z6 => k_is)
    (case z7 => k_is)
    (case z8 => k_is)
    (case z9 => k_is)
    (case z10 => k_is)
    (case z11 => k_is)
    (case z12 => k_is)
    (case tabC => exact rfl)
    (case tabL => k_is)
    (case tabV => exact rfl)
    (case tabN => first | k_is | exact rfl | decide +kernel)
