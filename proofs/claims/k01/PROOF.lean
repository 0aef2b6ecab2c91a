import PyProof.Rows.All
import Wide.All
import OpenK.AllK
import Wide.FinOn
import HandS.ForMost
import HandS.ForExc
import HandS.IsInst
import HandS.Wide
import HandS.Walk
import HandS.Flow
import HandS.TupMul
import HandS.TupAny
import HandS.Deep
import HandS.WordsDict
import HandS.WordsExc
import HandS.Defaults
import HandS.EndBits
import PySem.Challenge.RW_censers_k01_rows_that_are_ways
set_option Elab.async false
set_option linter.all false
set_option maxRecDepth 100000
set_option maxHeartbeats 4000000
/-! Cz1: plain data D, how it stands in the abstract heap (Rep), environments by value (Sl), the state's relation SR. -/
namespace Cz
open PySem PySem.Spec PyProof.Rows L2
/-- plain data: what a value is, lists and dicts by their content -/
inductive D where
  | non | bl (b : Bool) | int (i : Int) | str (x : Str) | tup (ds : List D) | lst (ds : List D) | scr (ds : List D) | dic (kvs : List (Key × D))
deriving Inhabited
mutual
inductive Rep (K : PySem.W.Frag) (H : Hp) : D → V → List Addr → Prop
  | non : Rep K H .non .non []
  | bl (b : Bool) : Rep K H (.bl b) (.bl b) []
  | int (i : Int) : Rep K H (.int i) (.int i) []
  | str (x : Str) : Rep K H (.str x) (.str x) []
  | tup {a : Addr} {vs : List V} {ds : List D} {f : List Addr} : SqT K H a vs → Reps K H ds vs f → Rep K H (.tup ds) (.ref a) f
  | lst {a : Addr} {vs : List V} {ds : List D} {f : List Addr} : H a = some (.lst vs) → Reps K H ds vs f → Rep K H (.lst ds) (.ref a) (a :: f)
  | scr {a : Addr} {vs : List V} {ds : List D} {f : List Addr} : ((∀ H', SqL K H' a vs) ∨ ∃ o, H a = some (.frz o (.lst vs))) → Reps K H ds vs f → Rep K H (.scr ds) (.ref a) f
  | scw {a : Addr} {vs : List V} {ds : List D} {f : List Addr} : H a = some (.lst vs) → Reps K H ds vs f → Rep K H (.scr ds) (.ref a) (a :: f)
  | dic {a : Addr} {kvs : List (Key × V)} {kds : List (Key × D)} {f : List Addr} : H a = some (.dK kvs) → RepK K H kds kvs f → Rep K H (.dic kds) (.ref a) (a :: f)
inductive Reps (K : PySem.W.Frag) (H : Hp) : List D → List V → List Addr → Prop
  | nil : Reps K H [] [] []
  | cons {d : D} {v : V} {f : List Addr} {ds : List D} {vs : List V} {g : List Addr} : Rep K H d v f → Reps K H ds vs g → Reps K H (d :: ds) (v :: vs) (f ++ g)
inductive RepK (K : PySem.W.Frag) (H : Hp) : List (Key × D) → List (Key × V) → List Addr → Prop
  | nil : RepK K H [] [] []
  | cons {k : Key} {d : D} {v : V} {f : List Addr} {ds : List (Key × D)} {vs : List (Key × V)} {g : List Addr} : Rep K H d v f → RepK K H ds vs g → RepK K H ((k, d) :: ds) ((k, v) :: vs) (f ++ g)
end
section
variable {K : PySem.W.Frag} {H H' : Hp}
/-- tuples, also locked ones -/
def IsT : HO → Prop
  | .tup _ => True
  | .frz _ _ => True
  | _ => False
theorem SqT.keep {a : Addr} {vs : List V} (h : ∀ b o, H b = some o → IsT o → H' b = some o) (q : SqT K H a vs) : SqT K H' a vs := by
  rcases q with (q | ⟨o, q⟩) | q
  · exact .inl (.inl (h _ _ q trivial))
  · exact .inl (.inr ⟨o, h _ _ q trivial⟩)
  · exact .inr q
theorem Rd.keep {a : Addr} {u : HO} (h : ∀ o, H a = some o → H' a = some o) (q : Rd H a u) : Rd H' a u := by
  rcases q with q | ⟨o, q⟩
  · exact .inl (h _ q)
  · exact .inr ⟨o, h _ q⟩
mutual
/-- what is said of the nodes f and of the tuples keeps the representation -/
theorem Rep.frame (ht : ∀ b o, H b = some o → IsT o → H' b = some o) : ∀ {d : D} {v : V} {f : List Addr}, Rep K H d v f → (∀ a ∈ f, ∀ o, H a = some o → H' a = some o) → Rep K H' d v f
  | _, _, _, .non, _ => .non
  | _, _, _, .bl b, _ => .bl b
  | _, _, _, .int i, _ => .int i
  | _, _, _, .str x, _ => .str x
  | _, _, _, .tup q r, h => .tup (SqT.keep ht q) (Reps.frame ht r h)
  | _, _, _, .lst q r, h => .lst (h _ List.mem_cons_self _ q) (Reps.frame ht r fun a ha => h a (List.mem_cons_of_mem _ ha))
  | _, _, _, .scr q r, h => .scr (q.imp id fun ⟨o, e⟩ => ⟨o, ht _ _ e trivial⟩) (Reps.frame ht r h)
  | _, _, _, .scw q r, h => .scw (h _ List.mem_cons_self _ q) (Reps.frame ht r fun a ha => h a (List.mem_cons_of_mem _ ha))
  | _, _, _, .dic q r, h => .dic (h _ List.mem_cons_self _ q) (RepK.frame ht r fun a ha => h a (List.mem_cons_of_mem _ ha))
theorem Reps.frame (ht : ∀ b o, H b = some o → IsT o → H' b = some o) : ∀ {d : List D} {v : List V} {f : List Addr}, Reps K H d v f → (∀ a ∈ f, ∀ o, H a = some o → H' a = some o) → Reps K H' d v f
  | _, _, _, .nil, _ => .nil
  | _, _, _, .cons r t, h => .cons (Rep.frame ht r fun a ha => h a (List.mem_append_left _ ha)) (Reps.frame ht t fun a ha => h a (List.mem_append_right _ ha))
theorem RepK.frame (ht : ∀ b o, H b = some o → IsT o → H' b = some o) : ∀ {d : List (Key × D)} {v : List (Key × V)} {f : List Addr}, RepK K H d v f → (∀ a ∈ f, ∀ o, H a = some o → H' a = some o) → RepK K H' d v f
  | _, _, _, .nil, _ => .nil
  | _, _, _, .cons r t, h => .cons (Rep.frame ht r fun a ha => h a (List.mem_append_left _ ha)) (RepK.frame ht t fun a ha => h a (List.mem_append_right _ ha))
end
theorem Rep.same {d : D} {v : V} {f : List Addr} (s : Same H H') (r : Rep K H d v f) : Rep K H' d v f := r.frame (fun b o e _ => s b o e) fun a _ o e => s a o e
theorem Reps.same {d : List D} {v : List V} {f : List Addr} (s : Same H H') (r : Reps K H d v f) : Reps K H' d v f := r.frame (fun b o e _ => s b o e) fun a _ o e => s a o e
theorem RepK.same {d : List (Key × D)} {v : List (Key × V)} {f : List Addr} (s : Same H H') (r : RepK K H d v f) : RepK K H' d v f := r.frame (fun b o e _ => s b o e) fun a _ o e => s a o e
/-! every node is tracked -/
mutual
theorem Rep.trk : ∀ {d : D} {v : V} {f : List Addr}, Rep K H d v f → ∀ a ∈ f, H a ≠ none
  | _, _, _, .tup _ r, a, ha => Reps.trk r a ha
  | _, _, _, .lst q r, a, ha => by
    rcases List.mem_cons.mp ha with e | ha
    · subst e; rw [q]; simp
    · exact Reps.trk r a ha
  | _, _, _, .scr _ r, a, ha => Reps.trk r a ha
  | _, _, _, .scw q r, a, ha => by
    rcases List.mem_cons.mp ha with e | ha
    · subst e; rw [q]; simp
    · exact Reps.trk r a ha
  | _, _, _, .dic q r, a, ha => by
    rcases List.mem_cons.mp ha with e | ha
    · subst e; rw [q]; simp
    · exact RepK.trk r a ha
theorem Reps.trk : ∀ {d : List D} {v : List V} {f : List Addr}, Reps K H d v f → ∀ a ∈ f, H a ≠ none
  | _, _, _, .cons r t, a, ha => by
    rcases List.mem_append.mp ha with ha | ha
    · exact Rep.trk r a ha
    · exact Reps.trk t a ha
theorem RepK.trk : ∀ {d : List (Key × D)} {v : List (Key × V)} {f : List Addr}, RepK K H d v f → ∀ a ∈ f, H a ≠ none
  | _, _, _, .cons r t, a, ha => by
    rcases List.mem_append.mp ha with ha | ha
    · exact Rep.trk r a ha
    · exact RepK.trk t a ha
end
theorem Reps.length : ∀ {d : List D} {v : List V} {f : List Addr}, Reps K H d v f → d.length = v.length
  | _, _, _, .nil => rfl
  | _, _, _, .cons _ t => by simp [Reps.length t]
theorem Rep.lstI {ds : List D} {v : V} {f : List Addr} (r : Rep K H (.lst ds) v f) : ∃ a vs g, v = .ref a ∧ SqL K H a vs ∧ Reps K H ds vs g ∧ (∀ b ∈ g, b ∈ f) ∧ (f.Nodup → g.Nodup) := by
  cases r with
  | lst q r => exact ⟨_, _, _, rfl, .of q, r, fun b hb => List.mem_cons_of_mem _ hb, fun n => (List.nodup_cons.mp n).2⟩
theorem Rep.scrI {ds : List D} {v : V} {f : List Addr} (r : Rep K H (.scr ds) v f) : ∃ a vs g, v = .ref a ∧ SqL K H a vs ∧ Reps K H ds vs g ∧ (∀ b ∈ g, b ∈ f) ∧ (f.Nodup → g.Nodup) := by
  cases r with
  | scr q r =>
    rcases q with q | ⟨o, q⟩
    · exact ⟨_, _, _, rfl, q _, r, fun b hb => hb, fun n => n⟩
    · exact ⟨_, _, _, rfl, .inl (.inr ⟨o, q⟩), r, fun b hb => hb, fun n => n⟩
  | scw q r => exact ⟨_, _, _, rfl, .of q, r, fun b hb => List.mem_cons_of_mem _ hb, fun n => (List.nodup_cons.mp n).2⟩
theorem Rep.tupI {ds : List D} {v : V} {f : List Addr} (r : Rep K H (.tup ds) v f) : ∃ a vs, v = .ref a ∧ SqT K H a vs ∧ Reps K H ds vs f := by
  cases r with
  | tup q r => exact ⟨_, _, rfl, q, r⟩
theorem Reps.get : ∀ {ds : List D} {vs : List V} {f : List Addr} {i : Nat} {d : D}, Reps K H ds vs f → ds[i]? = some d → ∃ v g, vs[i]? = some v ∧ Rep K H d v g ∧ (∀ b ∈ g, b ∈ f) ∧ (f.Nodup → g.Nodup)
  | _, _, _, 0, d, .cons r _, e => by
    simp at e; subst e
    exact ⟨_, _, rfl, r, fun b hb => List.mem_append_left _ hb, fun n => (List.nodup_append.mp n).1⟩
  | _, _, _, i + 1, d, .cons r t, e => by
    obtain ⟨v, g, h1, h2, h3, h4⟩ := Reps.get (i := i) (d := d) t (by simpa using e)
    exact ⟨v, g, by simpa using h1, h2, fun b hb => List.mem_append_right _ (h3 b hb), fun n => h4 (List.nodup_append.mp n).2.1⟩
theorem Reps.take : ∀ {ds : List D} {vs : List V} {f : List Addr} (n : Nat), Reps K H ds vs f → ∃ g, Reps K H (ds.take n) (vs.take n) g ∧ (∀ b ∈ g, b ∈ f) ∧ (f.Nodup → g.Nodup)
  | _, _, _, 0, _ => ⟨[], .nil, by simp, by simp⟩
  | _, _, _, n + 1, .nil => ⟨[], .nil, by simp, by simp⟩
  | _, _, _, n + 1, .cons (f := f) r t => by
    obtain ⟨g, h1, h2, h3⟩ := Reps.take n t
    refine ⟨f ++ g, .cons r h1, fun b hb => ?_, fun nd => ?_⟩
    · rcases List.mem_append.mp hb with hb | hb
      · exact List.mem_append_left _ hb
      · exact List.mem_append_right _ (h2 b hb)
    · obtain ⟨n1, n2, n3⟩ := List.nodup_append.mp nd
      exact List.nodup_append.mpr ⟨n1, h3 n2, fun a ha b hb => n3 a ha b (h2 b hb)⟩
theorem Reps.drop : ∀ {ds : List D} {vs : List V} {f : List Addr} (n : Nat), Reps K H ds vs f → ∃ g, Reps K H (ds.drop n) (vs.drop n) g ∧ (∀ b ∈ g, b ∈ f) ∧ (f.Nodup → g.Nodup)
  | _, _, _, 0, r => ⟨_, r, fun _ h => h, fun h => h⟩
  | _, _, _, n + 1, .nil => ⟨[], .nil, by simp, by simp⟩
  | _, _, _, n + 1, .cons r t => by
    obtain ⟨g, h1, h2, h3⟩ := Reps.drop n t
    exact ⟨g, h1, fun b hb => List.mem_append_right _ (h2 b hb), fun nd => h3 (List.nodup_append.mp nd).2.1⟩
theorem Reps.app : ∀ {ds es : List D} {vs ws : List V} {f g : List Addr}, Reps K H ds vs f → Reps K H es ws g → Reps K H (ds ++ es) (vs ++ ws) (f ++ g)
  | _, _, _, _, _, _, .nil, s => s
  | _, _, _, _, _, _, .cons r t, s => by rw [List.append_assoc]; exact .cons r (Reps.app t s)
theorem Reps.ints : ∀ (ns : List Int), Reps K H (ns.map D.int) (ns.map V.int) []
  | [] => .nil
  | n :: ns => .cons (f := []) (g := []) (.int n) (Reps.ints ns)
/-- items that are ints -/
theorem Reps.ints_inv : ∀ {ns : List Int} {vs : List V} {f : List Addr}, Reps K H (ns.map D.int) vs f → vs = ns.map V.int ∧ f = []
  | [], _, _, h => by cases h; exact ⟨rfl, rfl⟩
  | n :: ns, _, _, h => by
    cases h with
    | cons r t =>
      cases r
      obtain ⟨e1, e2⟩ := Reps.ints_inv t
      subst e1; subst e2
      exact ⟨rfl, rfl⟩
end
/-! ### no list, no dict within -/
mutual
def noL : D → Bool
  | .non => true | .bl _ => true | .int _ => true | .str _ => true
  | .tup ds => noLs ds
  | .lst _ => false | .scr _ => false | .dic _ => false
def noLs : List D → Bool
  | [] => true
  | d :: ds => noL d && noLs ds
end
mutual
theorem Rep.noL {K : PySem.W.Frag} {H : Hp} : ∀ {d : D} {v : V} {f : List Addr}, Rep K H d v f → Cz.noL d = true → f = []
  | _, _, _, .non, _ => rfl
  | _, _, _, .bl b, _ => rfl
  | _, _, _, .int i, _ => rfl
  | _, _, _, .str x, _ => rfl
  | _, _, _, .tup q r, h => Reps.noL r (by simpa [Cz.noL] using h)
  | _, _, _, .lst q r, h => by simp [Cz.noL] at h
  | _, _, _, .scr q r, h => by simp [Cz.noL] at h
  | _, _, _, .scw q r, h => by simp [Cz.noL] at h
  | _, _, _, .dic q r, h => by simp [Cz.noL] at h
theorem Reps.noL {K : PySem.W.Frag} {H : Hp} : ∀ {d : List D} {v : List V} {f : List Addr}, Reps K H d v f → Cz.noLs d = true → f = []
  | _, _, _, .nil, _ => rfl
  | _, _, _, .cons r t, h => by
    simp only [Cz.noLs, Bool.and_eq_true] at h
    rw [Rep.noL r h.1, Reps.noL t h.2]; rfl
end
@[simp] theorem noLs_ints : ∀ ns : List Int, noLs (ns.map D.int) = true
  | [] => rfl
  | n :: ns => by simp [noLs, noL, noLs_ints ns]
/-! ### kinds, results, slots -/
inductive Kd where
  | own | bor (is : List Nat)
def Kd.is : Kd → List Nat
  | .own => []
  | .bor is => is
def Kd.join : Kd → Kd → Kd
  | .own, .own => .own
  | a, b => .bor (a.is ++ b.is)
inductive R (α : Type) where
  | ok (a : α) | ex (c : String) | st
def R.bind {α β : Type} : R α → (α → R β) → R β
  | .ok a, f => f a
  | .ex c, _ => .ex c
  | .st, _ => .st
@[simp] theorem R.bind_ok {α β : Type} (a : α) (f : α → R β) : (R.ok a).bind f = f a := rfl
@[simp] theorem R.bind_ex {α β : Type} (c : String) (f : α → R β) : (R.ex c : R α).bind f = .ex c := rfl
@[simp] theorem R.bind_st {α β : Type} (f : α → R β) : (R.st : R α).bind f = .st := rfl
inductive Sl where
  | no | ow (d : D) | bo (is : List Nat) (d : D)
abbrev Env := List Sl
abbrev KD := Kd × D
abbrev SE := Env → R KD
abbrev STs := Env → R Bool
abbrev SA := Env → R (List KD)
inductive Out where
  | nx (ρ : Env) | rt (k : Kd) (d : D) | bk (ρ : Env) | ct (ρ : Env) | ex (c : String) (ρ : Env) | st
abbrev SS := Env → Out
/-- it may be written -/
structure Mu (o : Option HO) : Prop where
  m : L2.Mut o
def Sh (A : Addr → Prop) (H0 : Hp) (F : Nat → List Addr) (a : Addr) : Prop := (A a ∨ H0 a = none) ∧ ∀ j, a ∉ F j
def BOk (A : Addr → Prop) (H0 : Hp) (F : Nat → List Addr) (is : List Nat) (f : List Addr) : Prop := ∀ a ∈ f, (∃ j ∈ is, a ∈ F j) ∨ Sh A H0 F a
def KOk (A : Addr → Prop) (H0 : Hp) (F : Nat → List Addr) (H H' : Hp) : Kd → List Addr → Prop
  | .own, f => f.Nodup ∧ ∀ a ∈ f, H a = none ∧ Mu (H' a)
  | .bor is, f => BOk A H0 F is f
def RetK (A : Addr → Prop) (H0 H' : Hp) : Kd → List Addr → Prop
  | .own, f => f.Nodup ∧ ∀ a ∈ f, H0 a = none ∧ Mu (H' a)
  | .bor _, f => ∀ a ∈ f, A a ∨ H0 a = none
/-- the state: A, what was shared at the entry; H0, the entry; F, the nodes that each slot owns; G, what loops walk -/
structure SR (K : PySem.W.Frag) (A : Addr → Prop) (H0 : Hp) (F : Nat → List Addr) (G : List (D × V)) (ρ : Env) (σ : L2.St) (H : Hp) : Prop where
  len : ρ.length = σ.length
  fr : Same H0 H
  own : ∀ i, (F i).Nodup ∧ ∀ a ∈ F i, H0 a = none ∧ Mu (H a)
  dis : ∀ i j a, a ∈ F i → a ∈ F j → i = j
  slo : ∀ (i : Nat) d, ρ[i]? = some (.ow d) → ∃ v, σ[i]? = some (some v) ∧ Rep K H d v (F i)
  slb : ∀ (i : Nat) is d, ρ[i]? = some (.bo is d) → ∃ v f, σ[i]? = some (some v) ∧ Rep K H d v f ∧ BOk A H0 F is f
  gho : ∀ p ∈ G, ∃ f, Rep K H p.1 p.2 f ∧ ∀ a ∈ f, Sh A H0 F a
  emp : ∀ i, i < ρ.length → F i ≠ [] → ∃ d, ρ[i]? = some (.ow d)
  fin : ∃ L, ∀ j, L ≤ j → F j = []
section
variable {K : PySem.W.Frag} {A : Addr → Prop} {H0 H H1 H' : Hp} {F : Nat → List Addr} {G : List (D × V)} {ρ : Env} {σ : L2.St}
theorem Mu.same {a : Addr} (s : Same H H') (m : Mu (H a)) : Mu (H' a) := by
  cases e : H a with
  | none => rw [e] at m; exact m.m.elim
  | some o => rw [s a o e]; rw [e] at m; exact m
theorem Mu.ne {a : Addr} (m : Mu (H a)) : H a ≠ none := by
  intro e; rw [e] at m; exact m.m
theorem SR.same (r : SR K A H0 F G ρ σ H) (s : Same H H') : SR K A H0 F G ρ σ H' where
  len := r.len
  fr := r.fr.trans s
  own := fun i => ⟨(r.own i).1, fun a ha => ⟨((r.own i).2 a ha).1, ((r.own i).2 a ha).2.same s⟩⟩
  dis := r.dis
  slo := fun i d e => let ⟨v, h1, h2⟩ := r.slo i d e; ⟨v, h1, h2.same s⟩
  slb := fun i is d e => let ⟨v, f, h1, h2, h3⟩ := r.slb i is d e; ⟨v, f, h1, h2.same s, h3⟩
  gho := fun p hp => let ⟨f, h1, h2⟩ := r.gho p hp; ⟨f, h1.same s, h2⟩
  emp := r.emp
  fin := r.fin
theorem KOk.bok {k : Kd} {f : List Addr} (r : SR K A H0 F G ρ σ H) (h : KOk A H0 F H H' k f) : BOk A H0 F k.is f := by
  cases k with
  | own => exact fun a ha => .inr ⟨.inr (r.fr.free (h.2 a ha).1), fun j hj => ((r.own j).2 a hj).2.ne (h.2 a ha).1⟩
  | bor is => exact h
theorem BOk.mono {is js : List Nat} {f g : List Addr} (h : BOk A H0 F is f) (hi : ∀ j ∈ is, j ∈ js) (hf : ∀ a ∈ g, a ∈ f) : BOk A H0 F js g := fun a ha => by
  rcases h a (hf a ha) with ⟨j, hj, q⟩ | q
  · exact .inl ⟨j, hi j hj, q⟩
  · exact .inr q
theorem KOk.sub {k : Kd} {f g : List Addr} (h : KOk A H0 F H H' k f) (hs : ∀ a ∈ g, a ∈ f) (hn : f.Nodup → g.Nodup) : KOk A H0 F H H' k g := by
  cases k with
  | own => exact ⟨hn h.1, fun a ha => h.2 a (hs a ha)⟩
  | bor is => exact fun a ha => h a (hs a ha)
theorem KOk.nil (k : Kd) : KOk A H0 F H H' k [] := by
  cases k with
  | own => exact ⟨List.nodup_nil, fun a ha => nomatch ha⟩
  | bor is => exact fun a ha => nomatch ha
/-- later: the heap ahead earlier, the heap behind later -/
theorem KOk.wide {k : Kd} {f : List Addr} {Ha Hb : Hp} (h : KOk A H0 F H H' k f) (s1 : Same Ha H) (s2 : Same H' Hb) : KOk A H0 F Ha Hb k f := by
  cases k with
  | own => exact ⟨h.1, fun a ha => ⟨s1.free (h.2 a ha).1, (h.2 a ha).2.same s2⟩⟩
  | bor is => exact h
/-- two, one made behind the other -/
theorem KOk.join {k k' : Kd} {f g : List Addr} {Ha Hm Hb : Hp} (r : SR K A H0 F G ρ σ Ha) (s1 : Same Ha Hm) (s2 : Same Hm Hb) (hf : ∀ a ∈ f, Hm a ≠ none) (h : KOk A H0 F Ha Hm k f) (h' : KOk A H0 F Hm Hb k' g) :
    KOk A H0 F Ha Hb (k.join k') (f ++ g) := by
  have b1 := h.bok r
  have b2 := h'.bok (r.same s1)
  have key : BOk A H0 F (k.is ++ k'.is) (f ++ g) := fun a ha => by
    rcases List.mem_append.mp ha with ha | ha
    · exact b1.mono (fun j hj => List.mem_append_left _ hj) (fun _ q => q) a ha
    · exact b2.mono (fun j hj => List.mem_append_right _ hj) (fun _ q => q) a ha
  cases k with
  | own =>
    cases k' with
    | own =>
      refine ⟨List.nodup_append.mpr ⟨h.1, h'.1, fun a ha b hb e => ?_⟩, fun a ha => ?_⟩
      · subst e; exact hf a ha (h'.2 a hb).1
      · rcases List.mem_append.mp ha with ha | ha
        · exact ⟨(h.2 a ha).1, (h.2 a ha).2.same s2⟩
        · exact ⟨s1.free (h'.2 a ha).1, (h'.2 a ha).2⟩
    | bor js => exact key
  | bor is => exact key
end
end Cz
set_option maxHeartbeats 4000000
/-! Cz2a: further rules by values: + of any tuples and lists, * of tuples, max and min of a tuple. -/
namespace Cz
open PySem PySem.Spec PyProof.Rows L2
section
variable {X : Cx}
theorem OpR.or {f : Value → Value → Sem Value} {r r' : R2} (h : OpR X f r) (h' : OpR X f r') : OpR X f (fun x y H Q => r x y H Q ∨ r' x y H Q) := by
  intro pins s σ H x y v u Q I rx ry q
  rcases q with q | q
  · exact h pins s σ H x y v u Q I rx ry q
  · exact h' pins s σ H x y v u Q I rx ry q
def rCatTT (K : PySem.W.Frag) : R2 := fun x y H Q => ∃ a b xs ys, x = .ref a ∧ y = .ref b ∧ SqT K H a xs ∧ SqT K H b ys ∧ xs.length + ys.length ≤ sizeLine ∧
  (xs = [] → Q (.ref b) H) ∧ (xs ≠ [] → ys = [] → Q (.ref a) H) ∧ (xs ≠ [] → ys ≠ [] → ∀ p, H p = none → Q (.ref p) (upd H p (.tup (xs ++ ys))))
theorem op_catTT : OpR X (binaryOp .Add) (rCatTT X.K) := by
  intro pins s σ H x y v u Q I rx ry h
  obtain ⟨a, b, xs, ys, rfl, rfl, ha, hb, hz, q0, q1, q2⟩ := h
  cases rx
  cases ry
  obtain ⟨its, r1, ht, _⟩ := I.tuple ha
  obtain ⟨its2, r2, ht2, _⟩ := I.tuple hb
  by_cases hx : xs = []
  · obtain ⟨⟨cls, dd, data, sl⟩, ho, hc, n, hd⟩ := id ht
    obtain ⟨⟨cls2, dd2, data2, sl2⟩, ho2, hc2, n2, hd2⟩ := id ht2
    simp only at hc hd hc2 hd2
    subst hc hd hc2 hd2
    have hv : its = [] := r1.nil_iff.mpr hx
    exact concat_meets ⟨_, ho, rfl⟩ ⟨_, ho2, rfl⟩ noFill_tuple_add seq_tuple_add PySem.F.slot_tuple_add PySem.F.entry_tuple_add (PySem.F.args_tuple_add_2 _ _)
      (tuple_addW0 a b its.toArray its2.toArray n n2 dd dd2 sl sl2 (by simp [hv])) ⟨ho, ho2, ⟨.ref b, H, I, rfl, q0 hx⟩⟩
  · refine HT.cat_tup ht ht2 (fun z => hx (r1.nil_iff.mp z)) (fun z => ⟨.ref a, H, I, rfl, q1 hx (r2.nil_iff.mp z)⟩) (fun z => ?_) (by rw [← r1.length, ← r2.length]; exact hz)
    refine ⟨.ref s.heap.objs.size, _, I.laid (t' := s.toks) (o := .tup (xs ++ ys)) (fun b ob q => Heap.get?_push_of_some _ q) (Nat.le_refl _) ?_, rfl, q2 hx (fun w => z (r2.nil_iff.mpr w)) _ (I.hok.fresh (Nat.le_refl _))⟩
    exact ⟨by rw [List.length_append]; exact hz, _, r1.append r2, IsTup.new _ _⟩
def rCatLL (K : PySem.W.Frag) : R2 := fun x y H Q => ∃ l b xs zs, x = .ref l ∧ y = .ref b ∧ SqL K H l xs ∧ SqL K H b zs ∧ xs.length + zs.length ≤ sizeLine ∧ ∀ p, H p = none → Q (.ref p) (upd H p (.lst (xs ++ zs)))
theorem op_catLL : OpR X (binaryOp .Add) (rCatLL X.K) := by
  intro pins s σ H x y v u Q I rx ry h
  obtain ⟨l, b, xs, zs, rfl, rfl, hH, hB, hz, q⟩ := h
  cases rx
  cases ry
  obtain ⟨its, r, hl, _⟩ := I.list hH
  obtain ⟨its2, r2, hl2, _⟩ := I.list hB
  obtain ⟨⟨cls, dd, data, sl⟩, n, ho, hc, hdn, hd⟩ := id hl
  obtain ⟨⟨cls2, dd2, data2, sl2⟩, n2, ho2, hc2, hdn2, hd2⟩ := id hl2
  simp only at hc hd hc2 hd2 hdn hdn2
  subst hc hd hc2 hd2 hdn hdn2
  refine concat_meets ⟨_, ho, rfl⟩ ⟨_, ho2, rfl⟩ noFill_list_add seq_list_add PySem.F.slot_list_add PySem.F.entry_list_add (PySem.F.args_list_add_2 _ _) (list_addW l b its.toArray its2.toArray n n2 _ _ sl sl2 (by rw [List.size_toArray, List.size_toArray, ← r.length, ← r2.length]; exact hz)) ⟨ho, ho2, ?_⟩
  have ea : its.toArray ++ its2.toArray = (its ++ its2).toArray := by simp
  rw [ea]
  exact ⟨.ref _, _, I.lnew (t' := s.toks) (r.append r2) (by rw [List.length_append]; omega), rfl, q _ I.fresh⟩
/-- max, min of a tuple of ints -/
theorem max_rawT {prog : Program} {w : World} {A : Around} {E : Value → Shared → Prop} {s : Shared} {l : Addr} {its : List Value} {ns : List Int} {Q : Value → Shared → Prop} (hh : A.handled = none) (hl : s.heap.IsTuple l its.toArray) (hi : IntsAre its ns) (hne : 0 < ns.length)
    (h : ∀ h' tk M t', (∀ b o, s.heap.get? b = some o → h'.get? b = some o) → M ∈ ns → (∀ a, a ∈ ns → a ≤ M) → Q (.int M t') { s with heap := h', toks := tk }) : wpAny (model prog w) A (call (.builtin "max") [.ref l]) Q E s := by
  obtain ⟨xs, e⟩ := hi.allInts.items
  have hn : numsOf (intItems xs).toList = ns := by rw [← e]; exact hi.numsOf
  rw [nums_intItems] at hn
  subst hn
  rw [e] at hl
  have hsz : 0 < xs.size := by simpa using hne
  have hlt : l < s.heap.objs.size := by obtain ⟨_, e, _⟩ := hl; exact Heap.lt_size e
  refine call_max_walk (wpAny_pyIter_tuple hl ?_)
  refine ⟨_, [_, l], [_], _, _, _, _, rfl, Walks.tuple (A := A.in1) hh _ l (Nat.ne_of_lt hlt) (intItems xs), ⟨⟨_, Heap.get?_push_size _ rfl, rfl, rfl⟩, hl.push _⟩, fun c hc => ?_, by simpa [intItems] using hsz, CmpOf.ints_gt (numAt xs) (fun _ _ => intItems_at), fun v h' tk hP hk => ?_⟩
  · show c < (s.heap.push _).objs.size
    rw [Heap.size_push]
    rcases List.mem_cons.mp hc with rfl | hc
    · exact Nat.lt_succ_self _
    · rcases List.mem_cons.mp hc with rfl | hc
      · exact Nat.lt_succ_of_lt hlt
      · cases hc
  · have hold : ∀ c o, s.heap.get? c = some o → h'.get? c = some o := fun c o e => by
      refine hk c o (fun hm => ?_) (Heap.get?_push_of_some _ e)
      rcases List.mem_cons.mp hm with e1 | hm
      · have := Heap.lt_size e; rw [e1] at this; exact Nat.lt_irrefl _ this
      · cases hm
    have hP' : (intItems xs)[argBest (fun i j => decide (numAt xs i > numAt xs j)) (xs.size - 1)]? = some v := by simpa [intItems] using hP
    obtain ⟨t, rfl⟩ := intItems_at hP'
    obtain ⟨h1, h2⟩ := argBest_gt (numAt xs) (xs.size - 1)
    refine h h' tk _ t hold ?_ fun a ha => ?_
    · rw [numAt_eq]; exact PySem.getD_mem (by rw [List.length_map, Array.length_toList]; omega)
    · obtain ⟨j, hj, rfl⟩ := mem_getD ha
      rw [List.length_map, Array.length_toList] at hj
      rw [← numAt_eq]; exact h2 j (by omega)
theorem min_rawT {prog : Program} {w : World} {A : Around} {E : Value → Shared → Prop} {s : Shared} {l : Addr} {its : List Value} {ns : List Int} {Q : Value → Shared → Prop} (hh : A.handled = none) (hl : s.heap.IsTuple l its.toArray) (hi : IntsAre its ns) (hne : 0 < ns.length)
    (h : ∀ h' tk M t', (∀ b o, s.heap.get? b = some o → h'.get? b = some o) → M ∈ ns → (∀ a, a ∈ ns → M ≤ a) → Q (.int M t') { s with heap := h', toks := tk }) : wpAny (model prog w) A (call (.builtin "min") [.ref l]) Q E s := by
  obtain ⟨xs, e⟩ := hi.allInts.items
  have hn : numsOf (intItems xs).toList = ns := by rw [← e]; exact hi.numsOf
  rw [nums_intItems] at hn
  subst hn
  rw [e] at hl
  have hsz : 0 < xs.size := by simpa using hne
  have hlt : l < s.heap.objs.size := by obtain ⟨_, e, _⟩ := hl; exact Heap.lt_size e
  refine call_min_walk (wpAny_pyIter_tuple hl ?_)
  refine ⟨_, [_, l], [_], _, _, _, _, rfl, Walks.tuple (A := A.in1) hh _ l (Nat.ne_of_lt hlt) (intItems xs), ⟨⟨_, Heap.get?_push_size _ rfl, rfl, rfl⟩, hl.push _⟩, fun c hc => ?_, by simpa [intItems] using hsz, CmpOf.ints_lt (numAt xs) (fun _ _ => intItems_at), fun v h' tk hP hk => ?_⟩
  · show c < (s.heap.push _).objs.size
    rw [Heap.size_push]
    rcases List.mem_cons.mp hc with rfl | hc
    · exact Nat.lt_succ_self _
    · rcases List.mem_cons.mp hc with rfl | hc
      · exact Nat.lt_succ_of_lt hlt
      · cases hc
  · have hold : ∀ c o, s.heap.get? c = some o → h'.get? c = some o := fun c o e => by
      refine hk c o (fun hm => ?_) (Heap.get?_push_of_some _ e)
      rcases List.mem_cons.mp hm with e1 | hm
      · have := Heap.lt_size e; rw [e1] at this; exact Nat.lt_irrefl _ this
      · cases hm
    have hP' : (intItems xs)[argBest (fun i j => decide (numAt xs i < numAt xs j)) (xs.size - 1)]? = some v := by simpa [intItems] using hP
    obtain ⟨t, rfl⟩ := intItems_at hP'
    obtain ⟨h1, h2⟩ := argBest_lt (numAt xs) (xs.size - 1)
    refine h h' tk _ t hold ?_ fun a ha => ?_
    · rw [numAt_eq]; exact PySem.getD_mem (by rw [List.length_map, Array.length_toList]; omega)
    · obtain ⟨j, hj, rfl⟩ := mem_getD ha
      rw [List.length_map, Array.length_toList] at hj
      rw [← numAt_eq]; exact h2 j (by omega)
def rMaxT (K : PySem.W.Frag) : List V → Hp → VK → Prop := fun vs H Q => ∃ (a : Addr) (ns : List Int), vs = [V.ref a] ∧ SqT K H a (ns.map V.int) ∧ 0 < ns.length ∧ ∀ m, m ∈ ns → (∀ y, y ∈ ns → y ≤ m) → Q (.int m) H
def rMinT (K : PySem.W.Frag) : List V → Hp → VK → Prop := fun vs H Q => ∃ (a : Addr) (ns : List Int), vs = [V.ref a] ∧ SqT K H a (ns.map V.int) ∧ 0 < ns.length ∧ ∀ m, m ∈ ns → (∀ y, y ∈ ns → m ≤ y) → Q (.int m) H
theorem cr_maxT (hc : X.calm = true) : CallR X (.builtin "max") (rMaxT X.K) := by
  intro pins s σ H vs us Q I r h
  obtain ⟨a, ns, rfl, hs, hne, q⟩ := h
  obtain ⟨its, rv, hl, _⟩ := I.tuple hs
  rw [Vals.ref1 r]
  exact max_rawT (I.ok.hd hc) (show s.heap.IsTuple a its.toArray from hl) rv.ints hne fun h' tk m t' hk h1 h2 => ⟨.int _, H, I.kept hk, ⟨_, rfl⟩, q m h1 h2⟩
theorem cr_minT (hc : X.calm = true) : CallR X (.builtin "min") (rMinT X.K) := by
  intro pins s σ H vs us Q I r h
  obtain ⟨a, ns, rfl, hs, hne, q⟩ := h
  obtain ⟨its, rv, hl, _⟩ := I.tuple hs
  rw [Vals.ref1 r]
  exact min_rawT (I.ok.hd hc) (show s.heap.IsTuple a its.toArray from hl) rv.ints hne fun h' tk m t' hk h1 h2 => ⟨.int _, H, I.kept hk, ⟨_, rfl⟩, q m h1 h2⟩
/-- * of two factors of together less than a hundred million bits -/
def CMulX (i j : Int) : Prop := i.natAbs.log2 + j.natAbs.log2 < 100000000
theorem CMulX.ok {i j : Int} (h : CMulX i j) : IntMulOk i j := by
  have b : ∀ x : Int, Builtin.Int.intBits x ≤ x.natAbs.log2 + 1 := fun x => by
    unfold Builtin.Int.intBits
    split <;> omega
  have h1 := b i
  have h2 := b j
  have h3 : i.natAbs.log2 + j.natAbs.log2 < 100000000 := h
  have e : bitsLine = 134217728 := by decide
  unfold IntMulOk
  intro z
  rw [Bool.and_eq_true] at z
  have z2 := z.2
  unfold Builtin.Int.intTooBig at z2
  have z3 := of_decide_eq_true z2
  rw [e] at z3
  omega
theorem op_mulX : OpR X (binaryOp .Mult) (rI CMulX fun i j => .int (i * j)) := opI fun _ _ _ _ _ _ _ hc q => mul_int q hc.ok
/-- t * 1 is t itself -/
theorem tuple_mul1 (l : Addr) (items : Array Value) (n : Nat) (dd : Option Addr) (sl : Array (Option Value)) (u : Tok) :
    Meets (Builtin.«tuple.__mul__» ⟨[.ref l, .int 1 u], []⟩) (fun _ R s => s.heap.get? l = some { cls := .type "tuple", dict := dd, data := .seq items n, slots := sl } ∧ R (.ok (.ret (.ref l))) s) :=
  .of_wp fun prog w A R s h => by
    obtain ⟨hp, g, d, tk, os⟩ := s
    obtain ⟨hl, h⟩ := h
    have f1 := AutoSeq1.idx_int
    have c0 : (decide ((1 : Int) < -(2 ^ 63)) || decide ((1 : Int) ≥ 2 ^ 63)) = false := by decide
    have c1 : (items.isEmpty || (1 : Int) == 1) = true := by simp
    wp_walk using wpAny_loadPart' hl
    repeat (first
      | (refine wpAny_ite_false (decide_eq_false (by rw [c0]; exact Bool.false_ne_true)) ?_; wp_walk using wpAny_loadPart' hl)
      | (refine wpAny_ite_true (decide_eq_true (by rw [c1])) ?_; wp_walk using wpAny_loadPart' hl)
      | (refine wpAny_ite_true (by first | exact c1 | exact decide_eq_true c1) ?_; wp_walk using wpAny_loadPart' hl))
    exact ⟨_, rfl, h⟩
def rRepT1 (K : PySem.W.Frag) : R2 := fun x y H Q => ∃ l k xs, x = .ref l ∧ y = .int k ∧ SqT K H l xs ∧ xs ≠ [] ∧ 1 ≤ k ∧ k ≤ 1000 ∧ xs.length ≤ 1000 ∧ (k = 1 → Q (.ref l) H) ∧ (k ≠ 1 → ∀ p, H p = none → Q (.ref p) (upd H p (.tup (List.replicate k.toNat xs).flatten)))
theorem op_repT1 : OpR X (binaryOp .Mult) (rRepT1 X.K) := by
  intro pins s σ H x y v u Q I rx ry h
  obtain ⟨l, k, xs, rfl, rfl, hT, hne, h1, h2, hz, q1, q2⟩ := h
  by_cases hk : k = 1
  · subst hk
    cases rx
    obtain ⟨t, rfl⟩ := ry
    obtain ⟨its, r, ⟨⟨cls, dd, data, sl⟩, ho, hc, n, hd⟩, hs⟩ := I.tuple hT
    simp only at hc hd
    subst hc hd
    refine wpAny_binaryOp_repeat_ref (T := "tuple") (U := "int") (by decide) ⟨_, ho, rfl⟩ (fun s' => typeIs_int s' 1 t) noFill_tuple_mul F.fills_int_mul F.slot_int_rmul repeat_tuple F.slot_int_index.lookup
      (call_meets F.slot_int_rmul (typeIs_int s 1 t) F.entry_int_rmul (F.args_int_rmul_2 _ _) (int_rmul_tuple 1 t l its.toArray n dd sl)
        ⟨ho, rfl, ⟨_, ho, rfl⟩, call_meets F.slot_tuple_mul ⟨_, ho, rfl⟩ F.entry_tuple_mul (F.args_tuple_mul_2 _ _) (tuple_mul1 l its.toArray n dd sl t) ⟨ho, ?_⟩⟩)
    exact ⟨.ref l, H, I, rfl, q1 rfl⟩
  · exact op_repT pins s σ H _ _ v u Q I rx ry ⟨l, k, xs, rfl, rfl, hT, hne, by omega, h2, hz, q2 hk⟩
end
end Cz
set_option maxHeartbeats 4000000
/-! Cz2: expressions: what the machine gives is what the evaluator gives. -/
namespace Cz
open PySem PySem.Spec PyProof.Rows L2
def Post {α : Type} (CA : String → Addr) (W : WX) (σ : L2.St) (H : Hp) (r : R α) (ok : α → Prop) : Prop :=
  match r with
  | .ok a => ok a
  | .ex c => ∀ H', Same H H' → W (.ref (CA c)) none σ H'
  | .st => False
def Cont (K : PySem.W.Frag) (A : Addr → Prop) (H0 : Hp) (F : Nat → List Addr) (H : Hp) (kd : KD) (Q : VK) : Prop :=
  ∀ v H' f, Same H H' → Rep K H' kd.2 v f → KOk A H0 F H H' kd.1 f → Q v H'
def tE (K : PySem.W.Frag) (CA : String → Addr) (W : WX) (s : SE) : TE := fun σ H Q =>
  ∃ A H0 F G ρ, SR K A H0 F G ρ σ H ∧ Post CA W σ H (s ρ) fun kd => Cont K A H0 F H kd Q
def tT (K : PySem.W.Frag) (CA : String → Addr) (W : WX) (s : STs) : TT := fun σ H Q =>
  ∃ A H0 F G ρ, SR K A H0 F G ρ σ H ∧ Post CA W σ H (s ρ) fun b => ∀ H', Same H H' → Q b H'
def R.of {α : Type} : Option α → R α
  | some a => .ok a
  | none => .st
@[simp] theorem R.of_some {α : Type} (a : α) : R.of (some a) = .ok a := rfl
@[simp] theorem R.of_none {α : Type} : R.of (none : Option α) = .st := rfl
section
variable {CA : String → Addr} {W : WX} {σ : L2.St} {H H1 : Hp}
theorem Post.bind {α β : Type} {r : R α} {f : α → R β} {ok : β → Prop} {ok' : α → Prop} (h : Post CA W σ H (r.bind f) ok) (k : ∀ a, Post CA W σ H (f a) ok → ok' a) : Post CA W σ H r ok' := by
  cases r with
  | ok a => exact k a h
  | ex c => exact h
  | st => exact h
theorem Post.later {α : Type} {r : R α} {ok : α → Prop} (h : Post CA W σ H r ok) (s : Same H H1) : Post CA W σ H1 r ok := by
  cases r with
  | ok a => exact h
  | ex c => exact fun H' q => h H' (s.trans q)
  | st => exact h
theorem Post.of {α : Type} {o : Option α} {ok : α → Prop} (h : Post CA W σ H (R.of o) ok) : ∃ a, o = some a ∧ ok a := by
  cases o with
  | none => exact h.elim
  | some a => exact ⟨a, rfl, h⟩
theorem Post.imp {α : Type} {r : R α} {ok ok' : α → Prop} (h : Post CA W σ H r ok) (k : ∀ a, r = .ok a → ok a → ok' a) : Post CA W σ H r ok' := by
  cases r with
  | ok a => exact k a rfl h
  | ex c => exact h
  | st => exact h
end
section
variable {X : Cx} {e : Expr}
theorem peI {t t' : TE} (h : PE X e t) (k : ∀ σ H Q, t' σ H Q → t σ H Q) : PE X e t' := ⟨fun pins s σ H Q I q => h.run pins s σ H Q I (k σ H Q q)⟩
theorem ptI {t t' : TT} (h : PT X e t) (k : ∀ σ H Q, t' σ H Q → t σ H Q) : PT X e t' := ⟨fun pins s σ H Q I q => h.run pins s σ H Q I (k σ H Q q)⟩
theorem pwI {t t' : TT} (h : PW X e t) (k : ∀ σ H Q, t' σ H Q → t σ H Q) : PW X e t' := ⟨fun w pins s σ H Q I q => h.run w pins s σ H Q I (k σ H Q q)⟩
end
/-! ### names and constants -/
def locE (i : Nat) : SE := fun ρ => match ρ[i]? with
  | some (.ow d) => .ok (.bor [i], d)
  | some (.bo is d) => .ok (.bor is, d)
  | _ => .st
def conE (d : D) : SE := fun _ => .ok (.own, d)
section
variable {X : Cx} {CA : String → Addr} {W : WX} {pos : Pos}
theorem e_loc (i : Nat) {x : Str} (hN : X.N[i]? = some x := by rfl) (hv : Vis X.env.scope x := by first | exact Or.inl rfl | exact Or.inr (Or.inl rfl) | exact Or.inr (Or.inr rfl)) (hd : (x == ("__debug__" : Str)) = false := by decide)
    (hcd : (x == ("__classdict__" : Str)) = false := by decide) : PE X (.Name x pos) (tE X.K CA W (locE i)) := by
  refine peI (pe_var hN hv hd hcd) fun σ H Q ⟨A, H0, F, G, ρ, sr, h⟩ => ?_
  unfold locE at h
  cases e : ρ[i]? with
  | none => rw [e] at h; exact h.elim
  | some sl =>
    rw [e] at h
    cases sl with
    | no => exact h.elim
    | ow d =>
      obtain ⟨v, hv, r⟩ := sr.slo i d e
      exact ⟨v, hv, h v H (F i) (Same.refl H) r fun a ha => .inl ⟨i, by simp, ha⟩⟩
    | bo is d =>
      obtain ⟨v, f, hv, r, b⟩ := sr.slb i is d e
      exact ⟨v, hv, h v H f (Same.refl H) r b⟩
theorem e_con {e : Expr} {d : D} {v : V} (h : PE X e (tC v)) (r : ∀ K H, Rep K H d v []) : PE X e (tE X.K CA W (conE d)) :=
  peI h fun σ H Q ⟨A, H0, F, G, ρ, sr, h⟩ => h v H [] (Same.refl H) (r _ _) (KOk.nil _)
theorem e_int {i : Int} {j} : PE X (.Constant (.int i) j pos) (tE X.K CA W (conE (.int i))) := e_con pe_int fun _ _ => .int i
theorem e_bl {b : Bool} {j} : PE X (.Constant (.bool b) j pos) (tE X.K CA W (conE (.bl b))) := e_con pe_bl fun _ _ => .bl b
theorem e_non {j} : PE X (.Constant .none j pos) (tE X.K CA W (conE .non)) := e_con pe_non fun _ _ => .non
theorem e_str {x : Str} {j} : PE X (.Constant (.str x) j pos) (tE X.K CA W (conE (.str x))) := e_con pe_str fun _ _ => .str x
/-- a module's int -/
theorem e_gint {x : Str} {i : Int} (hm : ∃ t, X.mg x = some (.int i t)) (hg : Gl X x := by rfl) (hd : (x == ("__debug__" : Str)) = false := by decide) : PE X (.Name x pos) (tE X.K CA W (conE (.int i))) := by
  obtain ⟨t, hm⟩ := hm
  exact e_con (pe_glob (v := .int i) hg hm ⟨t, rfl⟩ hd) fun _ _ => .int i
/-- a module's text -/
theorem e_gstr {x : Str} {i : Str} (hm : ∃ t, X.mg x = some (.str i t)) (hg : Gl X x := by rfl) (hd : (x == ("__debug__" : Str)) = false := by decide) : PE X (.Name x pos) (tE X.K CA W (conE (.str i))) := by
  obtain ⟨t, hm⟩ := hm
  exact e_con (pe_glob (v := .str i) hg hm ⟨t, rfl⟩ hd) fun _ _ => .str i
end
/-! ### two operands -/
def LIM : Nat := 16777216
theorem lim_eq : LIM = sizeLine := sizeLine_eq.symm
def mulOk (i j : Int) : Bool := decide (i.natAbs.log2 + j.natAbs.log2 < 100000000)
def divOk (j : Int) : Bool := decide (0 < j) && decide (j.natAbs.log2 < 9000)
def powOk (i j : Int) : Bool := decide (0 ≤ j) && decide (j ≤ 1000000) && decide (i.natAbs < 2 ^ 64)
/-- the kind of a new list of such items -/
def lk (k : Kd) (ds : List D) : Kd := if noLs ds = true then .own else k
def opB : Operator → KD → KD → Option KD
  | .Add, (_, .int i), (_, .int j) => some (.own, .int (i + j))
  | .Add, (_, .str i), (_, .str j) => if i.length + j.length ≤ LIM then some (.own, .str (i ++ j)) else none
  | .Add, (k1, .tup a), (k2, .tup b) => if a.length + b.length ≤ LIM then some (k1.join k2, .tup (a ++ b)) else none
  | .Add, (k1, .lst a), (k2, .lst b) => if a.length + b.length ≤ LIM then some (lk (k1.join k2) (a ++ b), .lst (a ++ b)) else none
  | .Sub, (_, .int i), (_, .int j) => some (.own, .int (i - j))
  | .Mult, (_, .int i), (_, .int j) => if mulOk i j = true then some (.own, .int (i * j)) else none
  | .Mult, (k, .tup a), (_, .int j) => if a ≠ [] ∧ 1 ≤ j ∧ j ≤ 1000 ∧ a.length ≤ 1000 ∧ noLs a = true then some (k, .tup (List.replicate j.toNat a).flatten) else none
  | .FloorDiv, (_, .int i), (_, .int j) => if divOk j = true then some (.own, .int (i / j)) else none
  | .Mod, (_, .int i), (_, .int j) => if 0 < j then some (.own, .int (i % j)) else none
  | .Pow, (_, .int i), (_, .int j) => if powOk i j = true then some (.own, .int (i ^ j.toNat)) else none
  | _, _, _ => none
def binE (op : Operator) (a b : SE) : SE := fun ρ => (a ρ).bind fun x => (b ρ).bind fun y => R.of (opB op x y)
def rOp (K : PySem.W.Frag) : Operator → R2
  | .Add => fun x y H Q => rI0 (fun i j => .int (i + j)) x y H Q ∨ (∃ i j, x = .str i ∧ y = .str j ∧ i.length + j.length ≤ sizeLine ∧ Q (.str (i ++ j)) H) ∨ rCatTT K x y H Q ∨ rCatLL K x y H Q
  | .Sub => rI0 fun i j => .int (i - j)
  | .Mult => fun x y H Q => rI CMulX (fun i j => .int (i * j)) x y H Q ∨ rRepT1 K x y H Q
  | .FloorDiv => rI CDivW fun i j => .int (i / j)
  | .Mod => rI (fun _ j => 0 < j) fun i j => .int (i % j)
  | .Pow => rI CPow fun i j => .int (i ^ j.toNat)
  | _ => fun _ _ _ _ => False
theorem rOp_ok {X : Cx} (op : Operator) : OpR X (binaryOp op) (rOp X.K op) := by
  cases op with
  | Add => exact op_add.or (op_add_str.or (op_catTT.or op_catLL))
  | Sub => exact op_sub
  | Mult => exact op_mulX.or op_repT1
  | FloorDiv => exact op_fdivW
  | Mod => exact op_mod
  | Pow => exact op_pow
  | _ => exact fun _ _ _ _ _ _ _ _ _ _ _ _ h => h.elim
theorem same_upd {H : Hp} {p : Addr} {o : HO} (h : H p = none) : Same H (upd H p o) := fun b x e => by
  rw [upd_ne (ne_of_none e h)]; exact e
section
variable {K : PySem.W.Frag} {A : Addr → Prop} {H0 H H1 H2 : Hp} {F : Nat → List Addr} {G : List (D × V)} {ρ : Env} {σ : L2.St} {Q : VK}
theorem Cont.atom {d : D} {v : V} {k : Kd} (h : Cont K A H0 F H (k, d) Q) (s : Same H H1) (r : Rep K H1 d v []) : Q v H1 := h v H1 [] s r (KOk.nil _)
/-- a new list's node -/
theorem KOk.node {k : Kd} {p : Addr} {xs : List V} {f : List Addr} (sr : SR K A H0 F G ρ σ H) (s : Same H H1) (np : H1 p = none) (hf : ∀ a ∈ f, H1 a ≠ none) (o : KOk A H0 F H H1 k f) :
    KOk A H0 F H (upd H1 p (.lst xs)) k (p :: f) := by
  have hp : ∀ a ∈ f, a ≠ p := fun a ha e => hf a ha (by rw [e]; exact np)
  cases k with
  | own =>
    refine ⟨List.nodup_cons.mpr ⟨fun hm => hp p hm rfl, o.1⟩, fun a ha => ?_⟩
    rcases List.mem_cons.mp ha with e | ha
    · subst e; exact ⟨s.free np, ⟨by rw [upd_same]; trivial⟩⟩
    · exact ⟨(o.2 a ha).1, (o.2 a ha).2.same (same_upd np)⟩
  | bor is =>
    intro a ha
    rcases List.mem_cons.mp ha with e | ha
    · subst e
      exact .inr ⟨.inr ((sr.fr.trans s).free np), fun j hj => ((sr.same s).own j).2 a hj |>.2.ne np⟩
    · exact o a ha
theorem KOk.lk {k : Kd} {ds : List D} {vs : List V} {f : List Addr} (r : Reps K H1 ds vs f) (o : KOk A H0 F H H1 k f) : KOk A H0 F H H1 (lk k ds) f := by
  unfold Cz.lk
  split
  · rename_i h
    rw [Reps.noL r h]
    exact KOk.nil _
  · exact o
/-- what a new list of such items is wanted for -/
theorem Cont.newL {k : Kd} {ds : List D} {vs : List V} {f : List Addr} {p : Addr} (h : Cont K A H0 F H (k, .lst ds) Q) (sr : SR K A H0 F G ρ σ H) (s : Same H H1) (r : Reps K H1 ds vs f) (o : KOk A H0 F H H1 k f) (np : H1 p = none) : Q (.ref p) (upd H1 p (.lst vs)) :=
  h _ _ (p :: f) (s.trans (same_upd np)) (.lst upd_same (r.same (same_upd np))) (o.node sr s np r.trk)
theorem Cont.newT {k : Kd} {ds : List D} {vs : List V} {f : List Addr} {p : Addr} (h : Cont K A H0 F H (k, .tup ds) Q) (s : Same H H1) (r : Reps K H1 ds vs f) (o : KOk A H0 F H H1 k f) (np : H1 p = none) : Q (.ref p) (upd H1 p (.tup vs)) :=
  h _ _ f (s.trans (same_upd np)) (.tup (.of upd_same) (r.same (same_upd np))) (o.wide (Same.refl H) (same_upd np))
theorem opB_ok {op : Operator} {k1 k2 : Kd} {d1 d2 : D} {v1 v2 : V} {f1 f2 : List Addr} {kd : KD} (sr : SR K A H0 F G ρ σ H) (s1 : Same H H1) (s2 : Same H1 H2) (r1 : Rep K H1 d1 v1 f1) (r2 : Rep K H2 d2 v2 f2)
    (o1 : KOk A H0 F H H1 k1 f1) (o2 : KOk A H0 F H1 H2 k2 f2) (e : opB op (k1, d1) (k2, d2) = some kd) (h : Cont K A H0 F H kd Q) : rOp K op v1 v2 H2 Q := by
  have s12 := s1.trans s2
  have r1' := r1.same s2
  have two : ∀ {P : Int → Int → Prop} {g : Int → Int → Int} {i j : Int}, d1 = .int i → d2 = .int j → P i j → kd = (.own, .int (g i j)) → rI P (fun i j => .int (g i j)) v1 v2 H2 Q := fun {P g i j} e1 e2 p e3 => by
    subst e1; subst e2; subst e3
    cases r1; cases r2
    exact ⟨_, _, rfl, rfl, p, h.atom s12 (.int _)⟩
  cases op with
  | Add =>
    cases d1 with
    | int i =>
      cases d2 with
      | int j => simp only [opB, Option.some.injEq] at e; subst e; cases r1; cases r2; exact .inl ⟨_, _, rfl, rfl, h.atom s12 (.int _)⟩
      | _ => simp [opB] at e
    | str i =>
      cases d2 with
      | str j =>
        simp only [opB] at e
        split at e
        · cases e; cases r1; cases r2; rename_i hz; exact .inr (.inl ⟨_, _, rfl, rfl, by rw [← lim_eq]; exact hz, h.atom s12 (.str _)⟩)
        · cases e
      | _ => simp [opB] at e
    | tup a =>
      cases d2 with
      | tup b =>
        simp only [opB] at e
        split at e
        · rename_i hz
          cases e
          cases r1' with
          | tup t1 q1 =>
          cases r2 with
          | tup t2 q2 =>
          refine .inr (.inr (.inl ⟨_, _, _, _, rfl, rfl, t1, t2, by rw [← lim_eq, ← q1.length, ← q2.length]; exact hz, fun hx => ?_, fun hx hy => ?_, fun hx hy p np => ?_⟩))
          · subst hx
            cases q1
            exact h _ _ f2 s12 (.tup t2 q2) (KOk.join sr s1 s2 (f := []) (fun a ha => nomatch ha) (KOk.nil k1) o2)
          · subst hy
            cases q2
            refine h _ _ f1 s12 (by rw [List.append_nil]; exact .tup t1 q1) ?_
            have := KOk.join sr s1 s2 (g := []) r1.trk o1 (KOk.nil k2)
            rw [List.append_nil] at this
            exact this
          · exact h.newT s12 (q1.app q2) (KOk.join sr s1 s2 r1.trk o1 o2) np
        · cases e
      | _ => simp [opB] at e
    | lst a =>
      cases d2 with
      | lst b =>
        simp only [opB] at e
        split at e
        · rename_i hz
          cases e
          obtain ⟨a1, vs1, g1, rfl, t1, q1, i1, n1⟩ := r1.lstI
          obtain ⟨a2, vs2, g2, rfl, t2, q2, i2, n2⟩ := r2.lstI
          have q1' := q1.same s2
          refine .inr (.inr (.inr ⟨_, _, _, _, rfl, rfl, s2.seq t1, t2, by rw [← lim_eq, ← q1.length, ← q2.length]; exact hz, fun p np => ?_⟩))
          have o := KOk.join sr s1 s2 q1.trk (o1.sub i1 n1) (o2.sub i2 n2)
          exact h.newL sr s12 (q1'.app q2) (o.lk (q1'.app q2)) np
        · cases e
      | _ => simp [opB] at e
    | _ => cases d2 <;> simp [opB] at e
  | Sub =>
    cases d1 with
    | int i =>
      cases d2 with
      | int j => simp only [opB, Option.some.injEq] at e; subst e; cases r1; cases r2; exact ⟨_, _, rfl, rfl, h.atom s12 (.int _)⟩
      | _ => simp [opB] at e
    | _ => cases d2 <;> simp [opB] at e
  | Mult =>
    cases d1 with
    | int i =>
      cases d2 with
      | int j =>
        simp only [opB] at e
        split at e
        · rename_i hz; cases e; exact .inl (two (P := CMulX) rfl rfl (show i.natAbs.log2 + j.natAbs.log2 < 100000000 from of_decide_eq_true hz) rfl)
        · cases e
      | _ => simp [opB] at e
    | tup a =>
      cases d2 with
      | int j =>
        simp only [opB] at e
        split at e
        · rename_i hz
          cases e
          obtain ⟨h1, h2, h3, h4, h5⟩ := hz
          cases r1' with
          | @tup a0 vs _ _ t1 q1 =>
          cases r2
          have hne : vs ≠ [] := fun z => by subst z; cases q1; exact h1 rfl
          have hf := Reps.noL q1 h5
          refine .inr ⟨_, _, _, rfl, rfl, t1, hne, h2, h3, by rw [← q1.length]; exact h4, fun z => ?_, fun z p np => ?_⟩
          · have : (List.replicate j.toNat a).flatten = a := by rw [z]; simp
            rw [this] at h
            exact h _ _ f1 s12 (.tup t1 q1) (by rw [hf]; exact KOk.nil _)
          · have rr : ∀ m : Nat, Reps K H2 (List.replicate m a).flatten (List.replicate m vs).flatten [] := fun m => by
              induction m with
              | zero => exact .nil
              | succ m ih =>
                rw [hf] at q1
                have := q1.app ih
                simpa [List.replicate_succ] using this
            exact h.newT s12 (rr _) (KOk.nil _) np
        · cases e
      | _ => simp [opB] at e
    | _ => cases d2 <;> simp [opB] at e
  | FloorDiv =>
    cases d1 with
    | int i =>
      cases d2 with
      | int j =>
        simp only [opB] at e
        split at e
        · rename_i hz; cases e
          have hz' := Bool.and_eq_true_iff.mp hz
          exact two rfl rfl ⟨of_decide_eq_true hz'.1, of_decide_eq_true hz'.2⟩ rfl
        · cases e
      | _ => simp [opB] at e
    | _ => cases d2 <;> simp [opB] at e
  | Mod =>
    cases d1 with
    | int i =>
      cases d2 with
      | int j =>
        simp only [opB] at e
        split at e
        · rename_i hz; cases e; exact two (P := fun _ j => 0 < j) rfl rfl hz rfl
        · cases e
      | _ => simp [opB] at e
    | _ => cases d2 <;> simp [opB] at e
  | Pow =>
    cases d1 with
    | int i =>
      cases d2 with
      | int j =>
        simp only [opB] at e
        split at e
        · rename_i hz; cases e
          have hz' := Bool.and_eq_true_iff.mp hz
          have hz2 := Bool.and_eq_true_iff.mp hz'.1
          exact two rfl rfl ⟨of_decide_eq_true hz2.1, of_decide_eq_true hz2.2, of_decide_eq_true hz'.2⟩ rfl
        · cases e
      | _ => simp [opB] at e
    | _ => cases d2 <;> simp [opB] at e
  | _ => cases d1 <;> cases d2 <;> simp [opB] at e
end
section
variable {X : Cx} {CA : String → Addr} {W : WX} {pos : Pos} {a b : Expr} {sa sb : SE}
theorem e_bin {op : Operator} (ha : PE X a (tE X.K CA W sa)) (hb : PE X b (tE X.K CA W sb)) : PE X (.BinOp a op b pos) (tE X.K CA W (binE op sa sb)) := by
  refine peI (pe_op (rOp_ok op) ha hb) fun σ H Q ⟨A, H0, F, G, ρ, sr, h⟩ => ?_
  refine ⟨A, H0, F, G, ρ, sr, h.bind fun ⟨k1, d1⟩ h1 => ?_⟩
  intro v1 H1 f1 s1 r1 o1
  refine ⟨A, H0, F, G, ρ, sr.same s1, (h1.later s1).bind fun ⟨k2, d2⟩ h2 => ?_⟩
  intro v2 H2 f2 s2 r2 o2
  obtain ⟨kd, e, h3⟩ := h2.of
  exact opB_ok sr s1 s2 r1 r2 o1 o2 e h3
end
end Cz
set_option maxHeartbeats 4000000
/-! Cz3: comparisons, tests, displays, subscripts, slices. -/
namespace Cz
open PySem PySem.Spec PyProof.Rows L2
theorem Post.ofB {α β : Type} {CA : String → Addr} {W : WX} {σ : L2.St} {H : Hp} {o : Option α} {f : α → R β} {ok : β → Prop} (h : Post CA W σ H ((R.of o).bind f) ok) : ∃ a, o = some a ∧ Post CA W σ H (f a) ok := by
  cases o with
  | none => exact h.elim
  | some a => exact ⟨a, rfl, h⟩
/-! ### equality -/
mutual
def toP : D → Option PyData
  | .non => some .none | .bl b => some (.bool b) | .int i => some (.int i) | .str x => some (.str x)
  | .tup ds => (toPs ds).map .tuple
  | .lst ds => (toPs ds).map .list
  | .scr ds => (toPs ds).map .list
  | .dic _ => none
def toPs : List D → Option (List PyData)
  | [] => some []
  | d :: ds => match toP d, toPs ds with
    | some p, some ps => some (p :: ps)
    | _, _ => none
end
def eqD (a b : D) : Option Bool := match toP a, toP b with
  | some p, some q => if SeqAt.shaped p = true then if SeqAt.shaped q = true then some (PyData.eqv p q) else none else none
  | _, _ => none
section
variable {K : PySem.W.Frag} {H : Hp}
mutual
theorem Rep.dp : ∀ {d : D} {v : V} {f : List Addr} {p : PyData}, Rep K H d v f → toP d = some p → Dp K H v p
  | _, _, _, _, .non, e => by simp only [toP, Option.some.injEq] at e; subst e; exact .non
  | _, _, _, _, .bl b, e => by simp only [toP, Option.some.injEq] at e; subst e; exact .bl b
  | _, _, _, _, .int i, e => by simp only [toP, Option.some.injEq] at e; subst e; exact .int i
  | _, _, _, _, .str x, e => by simp only [toP, Option.some.injEq] at e; subst e; exact .str x
  | _, _, _, _, .tup (ds := ds) q r, e => by
    cases h : toPs ds with
    | none => simp [toP, h] at e
    | some ps => simp only [toP, h, Option.map_some, Option.some.injEq] at e; subst e; exact .tup q (Reps.dp r h)
  | _, _, _, _, .lst (ds := ds) q r, e => by
    cases h : toPs ds with
    | none => simp [toP, h] at e
    | some ps => simp only [toP, h, Option.map_some, Option.some.injEq] at e; subst e; exact .lst (.of q) (Reps.dp r h)
  | _, _, _, _, .scw (ds := ds) q r, e => by
    cases h : toPs ds with
    | none => simp [toP, h] at e
    | some ps => simp only [toP, h, Option.map_some, Option.some.injEq] at e; subst e; exact .lst (.of q) (Reps.dp r h)
  | _, _, _, _, .scr (ds := ds) q r, e => by
    cases h : toPs ds with
    | none => simp [toP, h] at e
    | some ps =>
      simp only [toP, h, Option.map_some, Option.some.injEq] at e; subst e
      rcases q with q | ⟨o, q⟩
      · exact .lst (q _) (Reps.dp r h)
      · exact .lst (.inl (.inr ⟨o, q⟩)) (Reps.dp r h)
  | _, _, _, _, .dic q r, e => by simp [toP] at e
theorem Reps.dp : ∀ {d : List D} {v : List V} {f : List Addr} {p : List PyData}, Reps K H d v f → toPs d = some p → DpAll K H v p
  | _, _, _, _, .nil, e => by simp only [toPs, Option.some.injEq] at e; subst e; exact .nil
  | _, _, _, _, .cons (d := d) (ds := ds) r t, e => by
    cases h : toP d with
    | none => simp [toPs, h] at e
    | some p =>
      cases h2 : toPs ds with
      | none => simp [toPs, h, h2] at e
      | some ps => simp only [toPs, h, h2, Option.some.injEq] at e; subst e; exact .cons (Rep.dp r h) (Reps.dp t h2)
end
end
/-! ### in -/
def fV : D → Option V
  | .non => some .non | .bl b => some (.bl b) | .int i => some (.int i) | .str x => some (.str x)
  | _ => none
def fVs : List D → Option (List V)
  | [] => some []
  | d :: ds => match fV d, fVs ds with
    | some p, some ps => some (p :: ps)
    | _, _ => none
def keyD : D → Option Key
  | .int i => some (.inl i)
  | .str x => some (.inr x)
  | _ => none
def valD : List (Key × D) → Key → Option D
  | [], _ => none
  | (k, d) :: r, q => if k = q then some d else valD r q
def inD (x y : D) : Option Bool := match y with
  | .dic kvs => (keyD x).map fun k => (valD kvs k).isSome
  | .str z => (match x with
    | .str s => (match s.cps.toList with
      | [c] => some (decide (c ∈ z.cps.toList))
      | _ => some (!(Builtin.Str.occurrences z s 0 z.length 1).isEmpty))
    | _ => none)
  | .tup ds => (match fV x, fVs ds with
    | some v, some vs => some (inV v vs)
    | _, _ => none)
  | .lst ds => (match toP x, toPs ds with
    | some p, some ps => if SeqAt.shaped p = true then if SeqAt.shaped (.list ps) = true then some (ps.any fun z => PyData.eqv z p) else none else none
    | _, _ => none)
  | _ => none
def isNon : D → Bool
  | .non => true
  | _ => false
def cmpB : CmpOp → D → D → Option Bool
  | .Lt, .int i, .int j => some (decide (i < j))
  | .LtE, .int i, .int j => some (decide (i ≤ j))
  | .Gt, .int i, .int j => some (decide (i > j))
  | .GtE, .int i, .int j => some (decide (i ≥ j))
  | .Eq, a, b => eqD a b
  | .NotEq, a, b => (eqD a b).map (!·)
  | .Is, a, .non => some (isNon a)
  | .IsNot, a, .non => some (!isNon a)
  | .In, x, y => inD x y
  | .NotIn, x, y => (inD x y).map (!·)
  | _, _, _ => none
section
variable {K : PySem.W.Frag} {H : Hp}
theorem Rep.fV {d : D} {v u : V} {f : List Addr} (r : Rep K H d v f) (e : Cz.fV d = some u) : v = u ∧ flatV u = true := by
  cases r <;> simp [Cz.fV] at e <;> (subst e; exact ⟨rfl, rfl⟩)
theorem Reps.fV : ∀ {ds : List D} {vs us : List V} {f : List Addr}, Reps K H ds vs f → fVs ds = some us → vs = us ∧ us.all flatV = true
  | _, _, _, _, .nil, e => by simp only [fVs, Option.some.injEq] at e; subst e; exact ⟨rfl, rfl⟩
  | _, _, _, _, .cons (d := d) (ds := ds) r t, e => by
    cases h : Cz.fV d with
    | none => simp [fVs, h] at e
    | some p =>
      cases h2 : fVs ds with
      | none => simp [fVs, h, h2] at e
      | some ps =>
        simp only [fVs, h, h2, Option.some.injEq] at e; subst e
        obtain ⟨e1, e2⟩ := r.fV h
        obtain ⟨e3, e4⟩ := Reps.fV t h2
        subst e1; subst e3
        exact ⟨rfl, by simp [e2, e4]⟩
theorem keyD_rep {d : D} {v : V} {f : List Addr} {k : Key} (r : Rep K H d v f) (e : keyD d = some k) : v = kV k := by
  cases r <;> simp [keyD] at e <;> (subst e; rfl)
theorem RepK.val : ∀ {kds : List (Key × D)} {kvs : List (Key × V)} {f : List Addr} (k : Key), RepK K H kds kvs f →
    (valD kds k = none ∧ valV kvs k = none) ∨ ∃ d v g, valD kds k = some d ∧ valV kvs k = some v ∧ Rep K H d v g ∧ (∀ a ∈ g, a ∈ f) ∧ (f.Nodup → g.Nodup)
  | _, _, _, k, .nil => .inl ⟨rfl, rfl⟩
  | _, _, _, k, .cons (k := q) (d := d) (v := v) r t => by
    by_cases h : q = k
    · refine .inr ⟨d, v, _, by simp [valD, h], valV_pos h, r, fun a ha => List.mem_append_left _ ha, fun n => (List.nodup_append.mp n).1⟩
    · rcases RepK.val k t with ⟨e1, e2⟩ | ⟨d', v', g, e1, e2, e3, e4, e5⟩
      · exact .inl ⟨by simp [valD, h, e1], by rw [valV_neg (p := (q, v)) h]; exact e2⟩
      · exact .inr ⟨d', v', g, by simp [valD, h, e1], by rw [valV_neg (p := (q, v)) h]; exact e2, e3, fun a ha => List.mem_append_right _ (e4 a ha), fun n => e5 (List.nodup_append.mp n).2.1⟩
end
def rDIn (neg : Bool) : R2 := fun x y H Q => ∃ a o, y = .ref a ∧ DGet H a x o ∧ Q (.bl (if neg then !o.isSome else o.isSome)) H
theorem op_dIn {X : Cx} (hu : X.A.units + 1 < cLine) : OpR X (compareOp .In) (rDIn false) := by
  intro pins s σ H x y v u Q I rx ry h
  obtain ⟨a, o, rfl, g, q⟩ := h
  obtain rfl : u = Value.ref a := ry
  exact d_in hu I g rx fun s3 I3 => ⟨.bl o.isSome, H, I3, rfl, q⟩
theorem op_dNotIn {X : Cx} (hu : X.A.units + 1 < cLine) : OpR X (compareOp .NotIn) (rDIn true) := by
  intro pins s σ H x y v u Q I rx ry h
  obtain ⟨a, o, rfl, g, q⟩ := h
  obtain rfl : u = Value.ref a := ry
  exact d_notIn hu I g rx fun s3 I3 => ⟨.bl (!o.isSome), H, I3, rfl, q⟩
def rOcc (neg : Bool) : R2 := fun x y H Q => ∃ i j, x = .str i ∧ y = .str j ∧ Q (.bl (if neg then !(!(Builtin.Str.occurrences j i 0 j.length 1).isEmpty) else !(Builtin.Str.occurrences j i 0 j.length 1).isEmpty)) H
def rSgn (neg : Bool) : R2 := fun x y H Q => ∃ (c : Nat) (z : Str), x = .str ⟨#[c]⟩ ∧ y = .str z ∧ Q (.bl (if neg then !decide (c ∈ z.cps.toList) else decide (c ∈ z.cps.toList))) H
def rInT (K : PySem.W.Frag) (neg : Bool) : R2 := fun x y H Q => rDIn neg x y H Q ∨ rOcc neg x y H Q ∨ rSgn neg x y H Q ∨ rIn K neg x y H Q ∨ (if neg then rNotInD K x y H Q else rInD K x y H Q)
def rCmp (K : PySem.W.Frag) : CmpOp → R2
  | .Lt => rI0 fun i j => .bl (decide (i < j))
  | .LtE => rI0 fun i j => .bl (decide (i ≤ j))
  | .Gt => rI0 fun i j => .bl (decide (i > j))
  | .GtE => rI0 fun i j => .bl (decide (i ≥ j))
  | .Eq => rEqD K
  | .NotEq => rNeD K
  | .Is => fun x y H Q => y = .non ∧ Q (.bl (decide (x = .non))) H
  | .IsNot => fun x y H Q => y = .non ∧ Q (.bl (!decide (x = .non))) H
  | .In => rInT K false
  | .NotIn => rInT K true
theorem rCmp_ok {X : Cx} (hu : X.A.units + 65 < cLine) (op : CmpOp) : OpR X (compareOp op) (rCmp X.K op) := by
  cases op with
  | Lt => exact op_lt
  | LtE => exact op_le
  | Gt => exact op_gt
  | GtE => exact op_ge
  | Eq => exact op_eqD (by omega)
  | NotEq => exact op_neD (by omega)
  | Is => exact op_isN
  | IsNot => exact op_notN
  | In => exact (op_dIn (by omega)).or (OpR.or op_in_str (OpR.or op_in_sign (OpR.or op_in_seq (op_inD hu))))
  | NotIn => exact (op_dNotIn (by omega)).or (OpR.or op_notin_str (OpR.or op_notIn_sign (OpR.or op_notIn_seq (op_notInD hu))))
theorem isNon_rep {K : PySem.W.Frag} {H : Hp} {d : D} {v : V} {f : List Addr} (r : Rep K H d v f) : decide (v = V.non) = isNon d := by
  cases r <;> simp [isNon]
theorem inD_ok {K : PySem.W.Frag} {H : Hp} {neg : Bool} {d1 d2 : D} {v1 v2 : V} {f1 f2 : List Addr} {b : Bool} {Q : VK} (r1 : Rep K H d1 v1 f1) (r2 : Rep K H d2 v2 f2) (e : inD d1 d2 = some b) (h : Q (.bl (if neg then !b else b)) H) : rInT K neg v1 v2 H Q := by
  cases d2 with
  | dic kvs =>
    cases k : keyD d1 with
    | none => simp [inD, k] at e
    | some k' =>
      simp only [inD, k, Option.map_some, Option.some.injEq] at e
      subst e
      cases r2 with
      | dic h2 q2 =>
      have ev := keyD_rep r1 k
      subst ev
      refine .inl ⟨_, _, rfl, DGet.k h2, ?_⟩
      rcases q2.val k' with ⟨e1, e2⟩ | ⟨_, _, _, e1, e2, _⟩
      · rw [e1] at h; rw [e2]; exact h
      · rw [e1] at h; rw [e2]; exact h
  | str z =>
    cases d1 with
    | str s =>
      cases r1; cases r2
      obtain ⟨⟨l⟩⟩ := s
      cases l with
      | nil =>
        simp only [inD, Option.some.injEq] at e
        subst e
        exact .inr (.inl ⟨_, _, rfl, rfl, h⟩)
      | cons c l =>
        cases l with
        | nil =>
          simp only [inD, Option.some.injEq] at e
          subst e
          exact .inr (.inr (.inl ⟨c, z, rfl, rfl, h⟩))
        | cons c2 l =>
          simp only [inD, Option.some.injEq] at e
          subst e
          exact .inr (.inl ⟨_, _, rfl, rfl, h⟩)
    | _ => simp [inD] at e
  | tup ds =>
    cases h1 : fV d1 with
    | none => simp [inD, h1] at e
    | some v =>
      cases h2 : fVs ds with
      | none => simp [inD, h1, h2] at e
      | some vs =>
        simp only [inD, h1, h2, Option.some.injEq] at e
        subst e
        cases r2 with
        | tup t q =>
        obtain ⟨e1, e2⟩ := r1.fV h1
        obtain ⟨e3, e4⟩ := q.fV h2
        subst e1; subst e3
        exact .inr (.inr (.inr (.inl ⟨_, _, rfl, .inr t, e2, e4, h⟩)))
  | lst ds =>
    cases h1 : toP d1 with
    | none => simp [inD, h1] at e
    | some p =>
      cases h2 : toPs ds with
      | none => simp [inD, h1, h2] at e
      | some ps =>
        simp only [inD, h1, h2] at e
        split at e
        · rename_i z1
          split at e
          · rename_i z2
            cases e
            obtain ⟨a, vs, g, rfl, t, q, _, _⟩ := r2.lstI
            refine .inr (.inr (.inr (.inr ?_)))
            cases neg with
            | false => exact ⟨p, ps, r1.dp h1, .lst t (q.dp h2), z1, z2, h⟩
            | true => exact ⟨p, ps, r1.dp h1, .lst t (q.dp h2), z1, z2, h⟩
          · cases e
        · cases e
  | _ => cases d1 <;> simp [inD] at e
theorem eqD_ok {K : PySem.W.Frag} {H : Hp} {d1 d2 : D} {v1 v2 : V} {f1 f2 : List Addr} {b : Bool} (r1 : Rep K H d1 v1 f1) (r2 : Rep K H d2 v2 f2) (e : eqD d1 d2 = some b) : ∃ p q, Dp K H v1 p ∧ Dp K H v2 q ∧ SeqAt.shaped p = true ∧ SeqAt.shaped q = true ∧ PyData.eqv p q = b := by
  cases h1 : toP d1 with
  | none => simp [eqD, h1] at e
  | some p =>
    cases h2 : toP d2 with
    | none => simp [eqD, h1, h2] at e
    | some q =>
      simp only [eqD, h1, h2] at e
      split at e
      · rename_i z1
        split at e
        · rename_i z2
          cases e
          exact ⟨p, q, r1.dp h1, r2.dp h2, z1, z2, rfl⟩
        · cases e
      · cases e
theorem cmpB_ok {K : PySem.W.Frag} {H : Hp} {op : CmpOp} {d1 d2 : D} {v1 v2 : V} {f1 f2 : List Addr} {b : Bool} {Q : VK} (r1 : Rep K H d1 v1 f1) (r2 : Rep K H d2 v2 f2) (e : cmpB op d1 d2 = some b) (h : Q (.bl b) H) : rCmp K op v1 v2 H Q := by
  have intz : ∀ {p : Int → Int → Bool}, (∀ i j, d1 = .int i → d2 = .int j → p i j = b) → (∃ i, d1 = .int i) → (∃ j, d2 = .int j) → rI0 (fun i j => .bl (p i j)) v1 v2 H Q := fun {p} hp ⟨i, e1⟩ ⟨j, e2⟩ => by
    have := hp i j e1 e2
    subst e1; subst e2; cases r1; cases r2
    exact ⟨_, _, rfl, rfl, by show Q (.bl (p i j)) H; rw [this]; exact h⟩
  cases op with
  | Eq => obtain ⟨p, q, h1, h2, z1, z2, e'⟩ := eqD_ok r1 r2 e; exact ⟨p, q, h1, h2, z1, z2, by rw [e']; exact h⟩
  | NotEq =>
    cases e0 : eqD d1 d2 with
    | none => simp [cmpB, e0] at e
    | some b0 =>
      simp only [cmpB, e0, Option.map_some, Option.some.injEq] at e
      subst e
      obtain ⟨p, q, h1, h2, z1, z2, e'⟩ := eqD_ok r1 r2 e0; exact ⟨p, q, h1, h2, z1, z2, by rw [e']; exact h⟩
  | In => exact inD_ok r1 r2 e h
  | NotIn =>
    cases e0 : inD d1 d2 with
    | none => simp [cmpB, e0] at e
    | some b0 =>
      simp only [cmpB, e0, Option.map_some, Option.some.injEq] at e
      subst e
      exact inD_ok r1 r2 e0 h
  | Is =>
    cases d2 with
    | non => simp only [cmpB, Option.some.injEq] at e; subst e; cases r2; exact ⟨rfl, by rw [isNon_rep r1]; exact h⟩
    | _ => simp [cmpB] at e
  | IsNot =>
    cases d2 with
    | non => simp only [cmpB, Option.some.injEq] at e; subst e; cases r2; exact ⟨rfl, by rw [isNon_rep r1]; exact h⟩
    | _ => simp [cmpB] at e
  | Lt =>
    cases d1 with
    | int i => cases d2 with
      | int j => simp only [cmpB, Option.some.injEq] at e; exact intz (fun i' j' e1 e2 => by cases e1; cases e2; exact e) ⟨_, rfl⟩ ⟨_, rfl⟩
      | _ => simp [cmpB] at e
    | _ => cases d2 <;> simp [cmpB] at e
  | LtE =>
    cases d1 with
    | int i => cases d2 with
      | int j => simp only [cmpB, Option.some.injEq] at e; exact intz (fun i' j' e1 e2 => by cases e1; cases e2; exact e) ⟨_, rfl⟩ ⟨_, rfl⟩
      | _ => simp [cmpB] at e
    | _ => cases d2 <;> simp [cmpB] at e
  | Gt =>
    cases d1 with
    | int i => cases d2 with
      | int j => simp only [cmpB, Option.some.injEq] at e; exact intz (fun i' j' e1 e2 => by cases e1; cases e2; exact e) ⟨_, rfl⟩ ⟨_, rfl⟩
      | _ => simp [cmpB] at e
    | _ => cases d2 <;> simp [cmpB] at e
  | GtE =>
    cases d1 with
    | int i => cases d2 with
      | int j => simp only [cmpB, Option.some.injEq] at e; exact intz (fun i' j' e1 e2 => by cases e1; cases e2; exact e) ⟨_, rfl⟩ ⟨_, rfl⟩
      | _ => simp [cmpB] at e
    | _ => cases d2 <;> simp [cmpB] at e
/-! ### tests -/
def cmpT (op : CmpOp) (a b : SE) : STs := fun ρ => (a ρ).bind fun x => (b ρ).bind fun y => R.of (cmpB op x.2 y.2)
def chnT (o1 o2 : CmpOp) (a b c : SE) : STs := fun ρ => (a ρ).bind fun x => (b ρ).bind fun y => (R.of (cmpB o1 x.2 y.2)).bind fun t =>
  if t = true then (c ρ).bind fun z => R.of (cmpB o2 y.2 z.2) else .ok false
def andT (a b : STs) : STs := fun ρ => (a ρ).bind fun t => if t = true then b ρ else .ok false
def orT (a b : STs) : STs := fun ρ => (a ρ).bind fun t => if t = true then .ok true else b ρ
def notT (a : STs) : STs := fun ρ => (a ρ).bind fun t => .ok (!t)
def truD : D → Option Bool
  | .non => some false
  | .bl b => some b
  | .int i => some (i != 0)
  | .str y => if y.length ≤ LIM then some ((y.length : Int) != 0) else none
  | .tup ds => some (!ds.isEmpty)
  | .lst ds => some (!ds.isEmpty)
  | .scr ds => some (!ds.isEmpty)
  | .dic kvs => some (!kvs.isEmpty)
def valT (a : SE) : STs := fun ρ => (a ρ).bind fun x => R.of (truD x.2)
/-- a test as a value -/
def boolE (t : STs) : SE := fun ρ => (t ρ).bind fun b => .ok (.own, .bl b)
def iteE (t : STs) (a b : SE) : SE := fun ρ => (t ρ).bind fun c => if c = true then a ρ else b ρ
def negE (a : SE) : SE := fun ρ => (a ρ).bind fun x => match x.2 with
  | .int i => .ok (.own, .int (-i))
  | _ => .st
theorem Reps.isEmpty {K : PySem.W.Frag} {H : Hp} {ds : List D} {vs : List V} {f : List Addr} (r : Reps K H ds vs f) : vs.isEmpty = ds.isEmpty := by cases r <;> rfl
theorem RepK.isEmpty {K : PySem.W.Frag} {H : Hp} {ds : List (Key × D)} {vs : List (Key × V)} {f : List Addr} (r : RepK K H ds vs f) : vs.isEmpty = ds.isEmpty := by cases r <;> rfl
theorem truD_ok {K : PySem.W.Frag} {H : Hp} {d : D} {v : V} {f : List Addr} {b : Bool} (r : Rep K H d v f) (e : truD d = some b) : TruV K v H b := by
  cases r with
  | non => simp only [truD, Option.some.injEq] at e; exact e.symm
  | bl b => simp only [truD, Option.some.injEq] at e; exact e.symm
  | int i => simp only [truD, Option.some.injEq] at e; exact e.symm
  | str x =>
    simp only [truD] at e
    split at e
    · rename_i hz; cases e; exact ⟨by rw [← lim_eq]; exact hz, rfl⟩
    · cases e
  | tup t q => simp only [truD, Option.some.injEq] at e; exact .inr (.inl ⟨_, t, by rw [q.isEmpty]; exact e.symm⟩)
  | lst t q => simp only [truD, Option.some.injEq] at e; exact .inl ⟨_, .of t, by rw [q.isEmpty]; exact e.symm⟩
  | scw t q => simp only [truD, Option.some.injEq] at e; exact .inl ⟨_, .of t, by rw [q.isEmpty]; exact e.symm⟩
  | scr t q =>
    simp only [truD, Option.some.injEq] at e
    rcases t with t | ⟨o, t⟩
    · exact .inl ⟨_, t _, by rw [q.isEmpty]; exact e.symm⟩
    · exact .inl ⟨_, .inl (.inr ⟨o, t⟩), by rw [q.isEmpty]; exact e.symm⟩
  | dic t q => simp only [truD, Option.some.injEq] at e; exact .inr (.inr ⟨_, t, by rw [q.isEmpty]; exact e.symm⟩)
section
variable {X : Cx} {CA : String → Addr} {W : WX} {pos : Pos} {a b c : Expr} {sa sb sc : SE} {ta tb : STs} {rest : List Expr}
theorem t_cmp {op : CmpOp} (hu : X.A.units + 65 < cLine) (ha : PE X a (tE X.K CA W sa)) (hb : PE X b (tE X.K CA W sb)) (hm : behindInMarks op b = false := by first | exact nomark _ | rfl) : PT X (.Compare a [op] [b] pos) (tT X.K CA W (cmpT op sa sb)) := by
  refine ptI (pt_cmpR (rCmp_ok hu op) ha hb hm) fun σ H Q ⟨A, H0, F, G, ρ, sr, h⟩ => ?_
  refine ⟨A, H0, F, G, ρ, sr, h.bind fun ⟨k1, d1⟩ h1 => ?_⟩
  intro v1 H1 f1 s1 r1 o1
  refine ⟨A, H0, F, G, ρ, sr.same s1, (h1.later s1).bind fun ⟨k2, d2⟩ h2 => ?_⟩
  intro v2 H2 f2 s2 r2 o2
  obtain ⟨t, e, h3⟩ := h2.of
  exact cmpB_ok (r1.same s2) r2 e ⟨t, rfl, h3 H2 (s1.trans s2)⟩
theorem e_cmp {op : CmpOp} (hu : X.A.units + 65 < cLine) (ha : PE X a (tE X.K CA W sa)) (hb : PE X b (tE X.K CA W sb)) (hm : behindInMarks op b = false := by first | exact nomark _ | rfl) : PE X (.Compare a [op] [b] pos) (tE X.K CA W (boolE (cmpT op sa sb))) := by
  refine peI (pe_cmpR (rCmp_ok hu op) ha hb hm) fun σ H Q ⟨A, H0, F, G, ρ, sr, h⟩ => ?_
  have h : Post CA W σ H ((sa ρ).bind fun x => (sb ρ).bind fun y => (R.of (cmpB op x.2 y.2)).bind fun b => .ok ((Kd.own, D.bl b) : KD)) (fun kd => Cont X.K A H0 F H kd Q) := by
    have e : boolE (cmpT op sa sb) ρ = ((sa ρ).bind fun x => (sb ρ).bind fun y => (R.of (cmpB op x.2 y.2)).bind fun b => .ok ((Kd.own, D.bl b) : KD)) := by
      unfold boolE cmpT
      cases sa ρ with
      | ok x => cases sb ρ <;> rfl
      | _ => rfl
    rw [e] at h
    exact h
  refine ⟨A, H0, F, G, ρ, sr, h.bind fun ⟨k1, d1⟩ h1 => ?_⟩
  intro v1 H1 f1 s1 r1 o1
  refine ⟨A, H0, F, G, ρ, sr.same s1, (h1.later s1).bind fun ⟨k2, d2⟩ h2 => ?_⟩
  intro v2 H2 f2 s2 r2 o2
  obtain ⟨t, e, h3⟩ := h2.ofB
  exact cmpB_ok (r1.same s2) r2 e (Cont.atom h3 (s1.trans s2) (.bl t))
theorem t_chn {o1 o2 : CmpOp} (hu : X.A.units + 65 < cLine) (ha : PE X a (tE X.K CA W sa)) (hb : PE X b (tE X.K CA W sb)) (hc : PE X c (tE X.K CA W sc)) (hm : lastMarks [o1, o2] [b, c] = false := by with_unfolding_all rfl) :
    PT X (.Compare a [o1, o2] [b, c] pos) (tT X.K CA W (chnT o1 o2 sa sb sc)) := by
  refine ptI (pt_chain (rCmp_ok hu o1) (rCmp_ok hu o2) ha hb hc hm) fun σ H Q ⟨A, H0, F, G, ρ, sr, h⟩ => ?_
  refine ⟨A, H0, F, G, ρ, sr, h.bind fun ⟨k1, d1⟩ h1 => ?_⟩
  intro v1 H1 f1 s1 r1 o1'
  refine ⟨A, H0, F, G, ρ, sr.same s1, (h1.later s1).bind fun ⟨k2, d2⟩ h2 => ?_⟩
  intro v2 H2 f2 s2 r2 o2'
  obtain ⟨t, e, h3⟩ := h2.ofB
  refine cmpB_ok (r1.same s2) r2 e ⟨t, rfl, ?_⟩
  cases t with
  | false => exact ⟨false, rfl, h3 H2 (s1.trans s2)⟩
  | true =>
    refine ⟨A, H0, F, G, ρ, (sr.same s1).same s2, ((h3.later s2).bind fun ⟨k3, d3⟩ h4 => ?_)⟩
    intro v3 H3 f3 s3 r3 o3
    obtain ⟨t, e, h5⟩ := h4.of
    exact cmpB_ok (r2.same s3) r3 e ⟨t, rfl, h5 H3 ((s1.trans s2).trans s3)⟩
theorem e_chn {o1 o2 : CmpOp} (hu : X.A.units + 65 < cLine) (ha : PE X a (tE X.K CA W sa)) (hb : PE X b (tE X.K CA W sb)) (hc : PE X c (tE X.K CA W sc)) (hm : lastMarks [o1, o2] [b, c] = false := by with_unfolding_all rfl) :
    PE X (.Compare a [o1, o2] [b, c] pos) (tE X.K CA W (boolE (chnT o1 o2 sa sb sc))) := by
  refine peI (pe_chain (rCmp_ok hu o1) (rCmp_ok hu o2) ha hb hc hm) fun σ H Q ⟨A, H0, F, G, ρ, sr, h⟩ => ?_
  have h : Post CA W σ H ((sa ρ).bind fun x => (sb ρ).bind fun y => (R.of (cmpB o1 x.2 y.2)).bind fun t => if t = true then (sc ρ).bind fun z => (R.of (cmpB o2 y.2 z.2)).bind fun b => .ok ((Kd.own, D.bl b) : KD) else .ok ((Kd.own, D.bl false) : KD)) (fun kd => Cont X.K A H0 F H kd Q) := by
    have e : boolE (chnT o1 o2 sa sb sc) ρ = ((sa ρ).bind fun x => (sb ρ).bind fun y => (R.of (cmpB o1 x.2 y.2)).bind fun t => if t = true then (sc ρ).bind fun z => (R.of (cmpB o2 y.2 z.2)).bind fun b => .ok ((Kd.own, D.bl b) : KD) else .ok ((Kd.own, D.bl false) : KD)) := by
      unfold boolE chnT
      cases sa ρ with
      | ok x =>
        cases sb ρ with
        | ok y =>
          simp only [R.bind]
          cases cmpB o1 x.2 y.2 with
          | none => rfl
          | some t =>
            cases t with
            | false => rfl
            | true => simp only [R.of, R.bind, if_true]; cases sc ρ <;> rfl
        | _ => rfl
      | _ => rfl
    rw [e] at h
    exact h
  refine ⟨A, H0, F, G, ρ, sr, h.bind fun ⟨k1, d1⟩ h1 => ?_⟩
  intro v1 H1 f1 s1 r1 o1'
  refine ⟨A, H0, F, G, ρ, sr.same s1, (h1.later s1).bind fun ⟨k2, d2⟩ h2 => ?_⟩
  intro v2 H2 f2 s2 r2 o2'
  obtain ⟨t, e, h3⟩ := h2.ofB
  refine cmpB_ok (r1.same s2) r2 e ⟨t, rfl, ?_⟩
  cases t with
  | false => exact Cont.atom h3 (s1.trans s2) (.bl false)
  | true =>
    refine ⟨A, H0, F, G, ρ, (sr.same s1).same s2, ((h3.later s2).bind fun ⟨k3, d3⟩ h4 => ?_)⟩
    intro v3 H3 f3 s3 r3 o3
    obtain ⟨t, e, h5⟩ := h4.ofB
    exact cmpB_ok (r2.same s3) r3 e (Cont.atom h5 ((s1.trans s2).trans s3) (.bl t))
theorem tw_and1 (ha : PT X a (tT X.K CA W ta)) : PW X (.BoolOp .And [a] pos) (tT X.K CA W ta) := pw_and1 ha
theorem tw_or1 (ha : PT X a (tT X.K CA W ta)) : PW X (.BoolOp .Or [a] pos) (tT X.K CA W ta) := pw_or1 ha
theorem tw_and (ha : PT X a (tT X.K CA W ta)) (hb : PW X (.BoolOp .And (b :: rest) pos) (tT X.K CA W tb)) : PW X (.BoolOp .And (a :: b :: rest) pos) (tT X.K CA W (andT ta tb)) := by
  refine pwI (pw_and ha hb) fun σ H Q ⟨A, H0, F, G, ρ, sr, h⟩ => ?_
  refine ⟨A, H0, F, G, ρ, sr, h.bind fun t h1 H1 s1 => ?_⟩
  cases t with
  | true => exact ⟨A, H0, F, G, ρ, sr.same s1, (h1.later s1).imp fun b _ q H2 s2 => q H2 (s1.trans s2)⟩
  | false => exact h1 H1 s1
theorem tw_or (ha : PT X a (tT X.K CA W ta)) (hb : PW X (.BoolOp .Or (b :: rest) pos) (tT X.K CA W tb)) : PW X (.BoolOp .Or (a :: b :: rest) pos) (tT X.K CA W (orT ta tb)) := by
  refine pwI (pw_or ha hb) fun σ H Q ⟨A, H0, F, G, ρ, sr, h⟩ => ?_
  refine ⟨A, H0, F, G, ρ, sr, h.bind fun t h1 H1 s1 => ?_⟩
  cases t with
  | false => exact ⟨A, H0, F, G, ρ, sr.same s1, (h1.later s1).imp fun b _ q H2 s2 => q H2 (s1.trans s2)⟩
  | true => exact h1 H1 s1
theorem t_pw (h : PW X a (tT X.K CA W ta)) : PT X a (tT X.K CA W ta) := h.pt
theorem t_not (ha : PT X a (tT X.K CA W ta)) : PT X (.UnaryOp .Not a pos) (tT X.K CA W (notT ta)) := by
  refine ptI (pt_not ha) fun σ H Q ⟨A, H0, F, G, ρ, sr, h⟩ => ?_
  exact ⟨A, H0, F, G, ρ, sr, h.bind fun t h1 => h1⟩
theorem t_val (ha : PE X a (tE X.K CA W sa)) (he : ∀ whole, isTrue a X.env whole = (do let v ← whole; standAt a.pos; holding [v] (truthy v)) := by intro _; rfl) : PT X a (tT X.K CA W (valT sa)) := by
  refine ptI (pt_truth ha he) fun σ H Q ⟨A, H0, F, G, ρ, sr, h⟩ => ?_
  refine ⟨A, H0, F, G, ρ, sr, h.bind fun ⟨k, d⟩ h1 => ?_⟩
  intro v H1 f s1 r o
  obtain ⟨t, e, h2⟩ := h1.of
  exact ⟨t, truD_ok r e, h2 H1 s1⟩
/-- and, or, not as values, all bools -/
theorem eb_one {op} {t : STs} (h : PE X a (tE X.K CA W (boolE t))) : PE X (.BoolOp op [a] pos) (tE X.K CA W (boolE t)) := pe_one h
theorem eb_and {t u : STs} (ha : PE X a (tE X.K CA W (boolE t))) (hb : PE X (.BoolOp .And (b :: rest) pos) (tE X.K CA W (boolE u))) : PE X (.BoolOp .And (a :: b :: rest) pos) (tE X.K CA W (boolE (andT t u))) := by
  refine peI (pe_and ha hb) fun σ H Q ⟨A, H0, F, G, ρ, sr, h⟩ => ?_
  have e : boolE (andT t u) ρ = (boolE t ρ).bind fun x => match x.2 with | .bl true => boolE u ρ | .bl false => .ok (.own, .bl false) | _ => .st := by
    unfold boolE andT
    cases t ρ with
    | ok x => cases x <;> rfl
    | _ => rfl
  rw [e] at h
  refine ⟨A, H0, F, G, ρ, sr, h.bind fun ⟨k, d⟩ h1 => ?_⟩
  intro v H1 f s1 r o
  cases d with
  | bl c =>
    cases r
    refine ⟨c, rfl, ?_⟩
    cases c with
    | true => exact ⟨A, H0, F, G, ρ, sr.same s1, (h1.later s1).imp fun kd _ q v H2 f s2 r2 o2 => q v H2 f (s1.trans s2) r2 (o2.wide s1 (Same.refl _))⟩
    | false => exact Cont.atom h1 s1 (.bl false)
  | _ => exact h1.elim
theorem eb_or {t u : STs} (ha : PE X a (tE X.K CA W (boolE t))) (hb : PE X (.BoolOp .Or (b :: rest) pos) (tE X.K CA W (boolE u))) : PE X (.BoolOp .Or (a :: b :: rest) pos) (tE X.K CA W (boolE (orT t u))) := by
  refine peI (pe_or ha hb) fun σ H Q ⟨A, H0, F, G, ρ, sr, h⟩ => ?_
  have e : boolE (orT t u) ρ = (boolE t ρ).bind fun x => match x.2 with | .bl false => boolE u ρ | .bl true => .ok (.own, .bl true) | _ => .st := by
    unfold boolE orT
    cases t ρ with
    | ok x => cases x <;> rfl
    | _ => rfl
  rw [e] at h
  refine ⟨A, H0, F, G, ρ, sr, h.bind fun ⟨k, d⟩ h1 => ?_⟩
  intro v H1 f s1 r o
  cases d with
  | bl c =>
    cases r
    refine ⟨c, rfl, ?_⟩
    cases c with
    | false => exact ⟨A, H0, F, G, ρ, sr.same s1, (h1.later s1).imp fun kd _ q v H2 f s2 r2 o2 => q v H2 f (s1.trans s2) r2 (o2.wide s1 (Same.refl _))⟩
    | true => exact Cont.atom h1 s1 (.bl true)
  | _ => exact h1.elim
theorem eb_not {t : STs} (ha : PE X a (tE X.K CA W (boolE t))) : PE X (.UnaryOp .Not a pos) (tE X.K CA W (boolE (notT t))) := by
  refine peI (pe_not ha) fun σ H Q ⟨A, H0, F, G, ρ, sr, h⟩ => ?_
  have e : boolE (notT t) ρ = (boolE t ρ).bind fun x => match x.2 with | .bl c => .ok (.own, .bl (!c)) | _ => .st := by
    unfold boolE notT
    cases t ρ <;> rfl
  rw [e] at h
  refine ⟨A, H0, F, G, ρ, sr, h.bind fun ⟨k, d⟩ h1 => ?_⟩
  intro v H1 f s1 r o
  cases d with
  | bl c => cases r; exact ⟨c, rfl, Cont.atom h1 s1 (.bl _)⟩
  | _ => exact h1.elim
/-- a value that is a bool -/
def bvT (a : SE) : STs := fun ρ => (a ρ).bind fun x => match x.2 with
  | .bl b => .ok b
  | _ => .st
theorem eb_val (ha : PE X a (tE X.K CA W sa)) : PE X a (tE X.K CA W (boolE (bvT sa))) := by
  refine peI ha fun σ H Q ⟨A, H0, F, G, ρ, sr, h⟩ => ?_
  have e : boolE (bvT sa) ρ = (sa ρ).bind fun x => match x.2 with | .bl c => .ok (.own, .bl c) | _ => .st := by
    unfold boolE bvT
    cases sa ρ with
    | ok x => obtain ⟨k, d⟩ := x; cases d <;> rfl
    | _ => rfl
  rw [e] at h
  refine ⟨A, H0, F, G, ρ, sr, h.bind fun ⟨k, d⟩ h1 => ?_⟩
  intro v H1 f s1 r o
  cases d with
  | bl c => cases r; exact Cont.atom h1 s1 (.bl _)
  | _ => exact h1.elim
theorem e_ite (hc : PT X c (tT X.K CA W ta)) (ha : PE X a (tE X.K CA W sa)) (hb : PE X b (tE X.K CA W sb)) : PE X (.IfExp c a b pos) (tE X.K CA W (iteE ta sa sb)) := by
  refine peI (pe_ifExp hc ha hb) fun σ H Q ⟨A, H0, F, G, ρ, sr, h⟩ => ?_
  refine ⟨A, H0, F, G, ρ, sr, h.bind fun t h1 H1 s1 => ?_⟩
  cases t with
  | true => exact ⟨A, H0, F, G, ρ, sr.same s1, (h1.later s1).imp fun kd _ q v H2 f s2 r2 o2 => q v H2 f (s1.trans s2) r2 (o2.wide s1 (Same.refl _))⟩
  | false => exact ⟨A, H0, F, G, ρ, sr.same s1, (h1.later s1).imp fun kd _ q v H2 f s2 r2 o2 => q v H2 f (s1.trans s2) r2 (o2.wide s1 (Same.refl _))⟩
theorem e_neg (ha : PE X a (tE X.K CA W sa)) : PE X (.UnaryOp .USub a pos) (tE X.K CA W (negE sa)) := by
  refine peI (pe_un un_neg ha) fun σ H Q ⟨A, H0, F, G, ρ, sr, h⟩ => ?_
  refine ⟨A, H0, F, G, ρ, sr, h.bind fun ⟨k, d⟩ h1 => ?_⟩
  intro v H1 f s1 r o
  cases d with
  | int i => cases r; exact ⟨i, rfl, Cont.atom h1 s1 (.int _)⟩
  | _ => exact h1.elim
end
end Cz
set_option maxHeartbeats 4000000
/-! Cz4: displays, subscripts, slices, calls of defs and of builtins. -/
namespace Cz
open PySem PySem.Spec PyProof.Rows L2
/-! ### argument lists, displays -/
def jn : List KD → Kd
  | [] => .own
  | x :: r => x.1.join (jn r)
def tA (K : PySem.W.Frag) (CA : String → Addr) (W : WX) (s : SA) : TA := fun σ H Q =>
  ∃ A H0 F G ρ, SR K A H0 F G ρ σ H ∧ Post CA W σ H (s ρ) fun xs => ∀ vs H' f, Same H H' → Reps K H' (xs.map (·.2)) vs f → KOk A H0 F H H' (jn xs) f → Q vs H'
def nilA : SA := fun _ => .ok []
def consA (a : SE) (r : SA) : SA := fun ρ => (a ρ).bind fun x => (r ρ).bind fun xs => .ok (x :: xs)
def tupE (s : SA) : SE := fun ρ => (s ρ).bind fun xs => if xs.length ≤ LIM then .ok (jn xs, .tup (xs.map (·.2))) else .st
def lstE (s : SA) : SE := fun ρ => (s ρ).bind fun xs => if xs.length ≤ LIM then .ok (lk (jn xs) (xs.map (·.2)), .lst (xs.map (·.2))) else .st
def dnwE : SE := fun _ => .ok (.own, .dic [])
def idxB : KD → D → Option KD
  | (k, .lst ds), .int i => (atI ds i).map fun d => (k, d)
  | (k, .scr ds), .int i => (atI ds i).map fun d => (k, d)
  | (k, .tup ds), .int i => (atI ds i).map fun d => (k, d)
  | (_, .str z), .int i => if z.length ≤ LIM then (atI z.cps.toList i).map fun c => (.own, .str ⟨#[c]⟩) else none
  | (k, .dic kvs), y => (keyD y).bind fun q => (valD kvs q).map fun d => (k, d)
  | _, _ => none
def idxE (a b : SE) : SE := fun ρ => (a ρ).bind fun x => (b ρ).bind fun y => R.of (idxB x y.2)
def cutD (ds : List D) (lo hi : Option Int) : List D := (ds.drop (HT.sIx ds.length 0 lo)).take (HT.sIx ds.length ds.length hi - HT.sIx ds.length 0 lo)
def slB : KD → Option Int → Option Int → Option KD
  | (k, .lst ds), lo, hi => some (lk k (cutD ds lo hi), .lst (cutD ds lo hi))
  | (k, .scr ds), lo, hi => some (lk k (cutD ds lo hi), .lst (cutD ds lo hi))
  | (k, .tup ds), lo, hi => some (k, .tup (cutD ds lo hi))
  | (_, .str z), lo, hi => if z.length ≤ LIM then some (.own, .str (cutS z lo hi)) else none
  | _, _, _ => none
abbrev SO := Env → R (Option Int)
def noO : SO := fun _ => .ok none
def someO (a : SE) : SO := fun ρ => (a ρ).bind fun x => match x.2 with
  | .int i => .ok (some i)
  | _ => .st
def slE (a : SE) (lo hi : SO) : SE := fun ρ => (a ρ).bind fun x => (lo ρ).bind fun l => (hi ρ).bind fun h => R.of (slB x l h)
def tO (K : PySem.W.Frag) (CA : String → Addr) (W : WX) (s : SO) : TO := fun σ H Q =>
  ∃ A H0 F G ρ, SR K A H0 F G ρ σ H ∧ Post CA W σ H (s ρ) fun o => ∀ H', Same H H' → Q o H'
section
variable {K : PySem.W.Frag} {A : Addr → Prop} {H0 H H1 H2 : Hp} {F : Nat → List Addr} {G : List (D × V)} {ρ : Env} {σ : L2.St} {Q : VK}
theorem atI_rep {ds : List D} {vs : List V} {f : List Addr} {i : Int} {d : D} (r : Reps K H ds vs f) (e : atI ds i = some d) : ∃ v g, atI vs i = some v ∧ Rep K H d v g ∧ (∀ b ∈ g, b ∈ f) ∧ (f.Nodup → g.Nodup) := by
  unfold atI at e ⊢
  rw [← r.length]
  cases h : ixN ds.length i with
  | none => rw [h] at e; cases e
  | some j =>
    rw [h] at e
    exact r.get e
theorem cut_rep {ds : List D} {vs : List V} {f : List Addr} (lo hi : Option Int) (r : Reps K H ds vs f) : ∃ g, Reps K H (cutD ds lo hi) (cutV vs lo hi) g ∧ (∀ b ∈ g, b ∈ f) ∧ (f.Nodup → g.Nodup) := by
  unfold cutD cutV
  rw [← r.length]
  obtain ⟨g, h1, h2, h3⟩ := r.drop (HT.sIx ds.length 0 lo)
  obtain ⟨g', h4, h5, h6⟩ := h1.take (HT.sIx ds.length ds.length hi - HT.sIx ds.length 0 lo)
  exact ⟨g', h4, fun b hb => h2 b (h5 b hb), fun n => h6 (h3 n)⟩
end
/-- d[y] of a dict -/
def rIxD : R2 := fun x y H Q => ∃ a v, x = .ref a ∧ DGet H a y (some v) ∧ Q v H
theorem ix_dict {X : Cx} (hu : X.A.units + 1 < cLine) : IxR X rIxD := by
  intro value slice pins s σ H x y v u Q I rx ry h hs
  obtain ⟨a, w, rfl, g, q⟩ := h
  obtain rfl : v = Value.ref a := rx
  exact tail_any (dict_typeIs I g) PySem.F.slot_dict_getitem.lookup (d_getItem hu I g ry fun w' s3 I3 rw' => ⟨w, H, I3, rw', q⟩) hs
def rIxx (K : PySem.W.Frag) : R2 := fun x y H Q => rIx K x y H Q ∨ rIxD x y H Q
theorem ix_any {X : Cx} (hu : X.A.units + 1 < cLine) : IxR X (rIxx X.K) := ix_seq.or (ix_dict hu)
def rSlx (K : PySem.W.Frag) : V → Option Int → Option Int → Hp → VK → Prop := fun x lo hi H Q => rSlL K x lo hi H Q ∨ rSlA K x lo hi H Q ∨ rSlS x lo hi H Q
theorem sl_any {X : Cx} : SlR X (rSlx X.K) := sl_list.or (sl_tupA.or sl_str)
section
variable {K : PySem.W.Frag} {A : Addr → Prop} {H0 H H1 H2 : Hp} {F : Nat → List Addr} {G : List (D × V)} {ρ : Env} {σ : L2.St} {Q : VK}
theorem idxB_ok {k : Kd} {d1 d2 : D} {v1 v2 : V} {f1 f2 : List Addr} {kd : KD} (s1 : Same H H1) (s2 : Same H1 H2) (r1 : Rep K H1 d1 v1 f1) (r2 : Rep K H2 d2 v2 f2) (o1 : KOk A H0 F H H1 k f1)
    (e : idxB (k, d1) d2 = some kd) (h : Cont K A H0 F H kd Q) : rIxx K v1 v2 H2 Q := by
  have r1' := r1.same s2
  have s12 := s1.trans s2
  have o1' := o1.wide (Same.refl H) s2
  cases d1 with
  | lst ds =>
    cases d2 with
    | int i =>
      cases ha : atI ds i with
      | none => simp [idxB, ha] at e
      | some d =>
        simp only [idxB, ha, Option.map_some, Option.some.injEq] at e
        subst e
        obtain ⟨a, vs, g, rfl, t, q, i1, n1⟩ := r1'.lstI
        obtain ⟨v, g', h1, h2, h3, h4⟩ := atI_rep q ha
        cases r2
        exact .inl (.inl ⟨_, _, _, _, rfl, rfl, t, h1, h v H2 g' s12 h2 ((o1'.sub i1 n1).sub h3 h4)⟩)
    | _ => simp [idxB] at e
  | scr ds =>
    cases d2 with
    | int i =>
      cases ha : atI ds i with
      | none => simp [idxB, ha] at e
      | some d =>
        simp only [idxB, ha, Option.map_some, Option.some.injEq] at e
        subst e
        obtain ⟨a, vs, g, rfl, t, q, i1, n1⟩ := r1'.scrI
        obtain ⟨v, g', h1, h2, h3, h4⟩ := atI_rep q ha
        cases r2
        exact .inl (.inl ⟨_, _, _, _, rfl, rfl, t, h1, h v H2 g' s12 h2 ((o1'.sub i1 n1).sub h3 h4)⟩)
    | _ => simp [idxB] at e
  | tup ds =>
    cases d2 with
    | int i =>
      cases ha : atI ds i with
      | none => simp [idxB, ha] at e
      | some d =>
        simp only [idxB, ha, Option.map_some, Option.some.injEq] at e
        subst e
        obtain ⟨a, vs, rfl, t, q⟩ := r1'.tupI
        obtain ⟨v, g', h1, h2, h3, h4⟩ := atI_rep q ha
        cases r2
        exact .inl (.inr (.inl ⟨_, _, _, _, rfl, rfl, t, h1, h v H2 g' s12 h2 (o1'.sub h3 h4)⟩))
    | _ => simp [idxB] at e
  | str z =>
    cases d2 with
    | int i =>
      simp only [idxB] at e
      split at e
      · rename_i hz
        cases ha : atI z.cps.toList i with
        | none => rw [ha] at e; cases e
        | some c =>
          rw [ha] at e
          simp only [Option.map_some, Option.some.injEq] at e
          subst e
          cases r1'; cases r2
          exact .inl (.inr (.inr ⟨_, _, _, rfl, rfl, by rw [← lim_eq]; exact hz, ha, h.atom s12 (.str _)⟩))
      · cases e
    | _ => simp [idxB] at e
  | dic kvs =>
    cases hk : keyD d2 with
    | none => cases d2 <;> simp [idxB, hk] at e
    | some q =>
      have e : ((keyD d2).bind fun q => (valD kvs q).map fun d => (k, d)) = some kd := by cases d2 <;> exact e
      rw [hk] at e
      cases r1' with
      | dic hd qd =>
      have ev := keyD_rep r2 hk
      subst ev
      rcases qd.val q with ⟨e1, _⟩ | ⟨d, v, g, e1, e2, e3, e4, e5⟩
      · simp [e1] at e
      · simp only [Option.bind_some, e1, Option.map_some, Option.some.injEq] at e
        subst e
        refine .inr ⟨_, v, rfl, e2 ▸ DGet.k hd, h v H2 g s12 e3 (o1'.sub (fun b hb => List.mem_cons_of_mem _ (e4 b hb)) fun n => e5 (List.nodup_cons.mp n).2)⟩
  | _ => cases d2 <;> simp [idxB] at e
theorem slB_ok {k : Kd} {d1 : D} {v1 : V} {f1 : List Addr} {lo hi : Option Int} {kd : KD} (sr : SR K A H0 F G ρ σ H) (s1 : Same H H1) (s2 : Same H1 H2) (r1 : Rep K H1 d1 v1 f1) (o1 : KOk A H0 F H H1 k f1)
    (e : slB (k, d1) lo hi = some kd) (h : Cont K A H0 F H kd Q) : rSlx K v1 lo hi H2 Q := by
  have r1' := r1.same s2
  have s12 := s1.trans s2
  have o1' := o1.wide (Same.refl H) s2
  cases d1 with
  | lst ds =>
    simp only [slB, Option.some.injEq] at e
    subst e
    obtain ⟨a, vs, g, rfl, t, q, i1, n1⟩ := r1'.lstI
    obtain ⟨g', h1, h2, h3⟩ := cut_rep lo hi q
    exact .inl ⟨a, vs, rfl, t, fun p np => h.newL sr s12 h1 (((o1'.sub i1 n1).sub h2 h3).lk h1) np⟩
  | scr ds =>
    simp only [slB, Option.some.injEq] at e
    subst e
    obtain ⟨a, vs, g, rfl, t, q, i1, n1⟩ := r1'.scrI
    obtain ⟨g', h1, h2, h3⟩ := cut_rep lo hi q
    exact .inl ⟨a, vs, rfl, t, fun p np => h.newL sr s12 h1 (((o1'.sub i1 n1).sub h2 h3).lk h1) np⟩
  | tup ds =>
    simp only [slB, Option.some.injEq] at e
    subst e
    obtain ⟨a, vs, rfl, t, q⟩ := r1'.tupI
    obtain ⟨g', h1, h2, h3⟩ := cut_rep lo hi q
    refine .inr (.inl ⟨a, vs, rfl, t, fun hw => ?_, fun hw p np => h.newT s12 h1 (o1'.sub h2 h3) np⟩)
    have e : cutV vs lo hi = vs := by
      unfold cutV
      rw [hw.1, hw.2]
      simp
    rw [e] at h1
    exact h _ _ g' s12 (.tup t h1) (o1'.sub h2 h3)
  | str z =>
    simp only [slB] at e
    split at e
    · rename_i hz
      cases e
      cases r1'
      exact .inr (.inr ⟨z, rfl, by rw [← lim_eq]; exact hz, h.atom s12 (.str _)⟩)
    · cases e
  | _ => simp [slB] at e
end
section
variable {X : Cx} {CA : String → Addr} {W : WX} {pos p2 : Pos} {a b e : Expr} {es : List Expr} {sa sb : SE} {s : SA} {lo hi : Option Expr} {sl sh : SO}
theorem a_nil : PA X [] (tA X.K CA W nilA) := by
  refine ⟨fun pos pins s σ H Q I ⟨A, H0, F, G, ρ, sr, h⟩ => pa_nil.run pos pins s σ H Q I ?_⟩
  exact h [] H [] (Same.refl H) .nil (KOk.nil _)
theorem a_cons (ha : PE X e (tE X.K CA W sa)) (hr : PA X es (tA X.K CA W s)) (hs : starEach (e :: es) X.env = (false, eval e X.env) :: starEach es X.env := by rfl) : PA X (e :: es) (tA X.K CA W (consA sa s)) := by
  refine ⟨fun pos pins s' σ H Q I ⟨A, H0, F, G, ρ, sr, h⟩ => (pa_cons ha hr hs).run pos pins s' σ H Q I ?_⟩
  refine ⟨A, H0, F, G, ρ, sr, h.bind fun ⟨k1, d1⟩ h1 => ?_⟩
  intro v1 H1 f1 s1 r1 o1
  refine ⟨A, H0, F, G, ρ, sr.same s1, (h1.later s1).bind fun xs h2 => ?_⟩
  intro vs H2 f2 s2 r2 o2
  exact h2 (v1 :: vs) H2 (f1 ++ f2) (s1.trans s2) (.cons (r1.same s2) r2) (KOk.join sr s1 s2 r1.trk o1 o2)
theorem Post.ite {α : Type} {CA : String → Addr} {W : WX} {σ : L2.St} {H : Hp} {c : Prop} [Decidable c] {r : R α} {ok : α → Prop} (h : Post CA W σ H (if c then r else .st) ok) : c ∧ Post CA W σ H r ok := by
  split at h
  · exact ⟨by assumption, h⟩
  · exact h.elim
theorem e_tup {x1} (h : PA X es (tA X.K CA W s)) : PE X (.Tuple es x1 pos) (tE X.K CA W (tupE s)) := by
  refine peI (pe_tup h) fun σ H Q ⟨A, H0, F, G, ρ, sr, h⟩ => ?_
  refine ⟨A, H0, F, G, ρ, sr, h.bind fun xs h1 => ?_⟩
  intro vs H1 f s1 r o
  obtain ⟨hz, h2⟩ := h1.ite
  exact ⟨by rw [← r.length, List.length_map, ← lim_eq]; exact hz, fun p np => Cont.newT h2 s1 r o np⟩
theorem e_lst (h : PA X es (tA X.K CA W s)) : PE X (.List es pos) (tE X.K CA W (lstE s)) := by
  refine peI (pe_lst h) fun σ H Q ⟨A, H0, F, G, ρ, sr, h⟩ => ?_
  refine ⟨A, H0, F, G, ρ, sr, h.bind fun xs h1 => ?_⟩
  intro vs H1 f s1 r o
  obtain ⟨hz, h2⟩ := h1.ite
  exact ⟨by rw [← r.length, List.length_map, ← lim_eq]; exact hz, fun p np => Cont.newL h2 sr s1 r (o.lk r) np⟩
theorem e_idx (hu : X.A.units + 65 < cLine) (ha : PE X a (tE X.K CA W sa)) (hb : PE X b (tE X.K CA W sb)) (hs : PlainIx b := by exact fun _ _ => rfl) : PE X (.Subscript a b pos) (tE X.K CA W (idxE sa sb)) := by
  refine peI (pe_ix (ix_any (by omega)) ha hb hs) fun σ H Q ⟨A, H0, F, G, ρ, sr, h⟩ => ?_
  refine ⟨A, H0, F, G, ρ, sr, h.bind fun ⟨k1, d1⟩ h1 => ?_⟩
  intro v1 H1 f1 s1 r1 o1
  refine ⟨A, H0, F, G, ρ, sr.same s1, (h1.later s1).bind fun ⟨k2, d2⟩ h2 => ?_⟩
  intro v2 H2 f2 s2 r2 o2
  obtain ⟨kd, e, h3⟩ := h2.of
  exact idxB_ok s1 s2 r1 r2 o1 e h3
theorem o_none : PO X none (tO X.K CA W noO) := by
  refine ⟨fun pins s σ H Q I ⟨A, H0, F, G, ρ, sr, h⟩ => po_none.run pins s σ H Q I ?_⟩
  exact h H (Same.refl H)
theorem o_some (ha : PE X a (tE X.K CA W sa)) : PO X (some a) (tO X.K CA W (someO sa)) := by
  refine ⟨fun pins s σ H Q I ⟨A, H0, F, G, ρ, sr, h⟩ => (po_some ha).run pins s σ H Q I ?_⟩
  refine ⟨A, H0, F, G, ρ, sr, h.bind fun ⟨k1, d1⟩ h1 => ?_⟩
  intro v1 H1 f1 s1 r1 o1
  cases d1 with
  | int i => cases r1; exact ⟨i, rfl, h1 H1 s1⟩
  | _ => exact h1.elim
theorem e_sl (ha : PE X a (tE X.K CA W sa)) (hl : PO X lo (tO X.K CA W sl)) (hh : PO X hi (tO X.K CA W sh)) : PE X (.Subscript a (.Slice lo hi none p2) pos) (tE X.K CA W (slE sa sl sh)) := by
  refine peI (pe_slice sl_any ha hl hh) fun σ H Q ⟨A, H0, F, G, ρ, sr, h⟩ => ?_
  refine ⟨A, H0, F, G, ρ, sr, h.bind fun ⟨k1, d1⟩ h1 => ?_⟩
  intro v1 H1 f1 s1 r1 o1
  refine ⟨A, H0, F, G, ρ, sr.same s1, (h1.later s1).bind fun l h2 => ?_⟩
  intro H2 s2
  refine ⟨A, H0, F, G, ρ, (sr.same s1).same s2, (h2.later s2).bind fun u h3 => ?_⟩
  intro H3 s3
  obtain ⟨kd, e, h4⟩ := h3.of
  exact slB_ok sr s1 (s2.trans s3) r1 o1 e h4
theorem e_dnw : PE X (.Dict [] [] pos) (tE X.K CA W dnwE) := by
  refine peI pe_dnewK fun σ H Q ⟨A, H0, F, G, ρ, sr, h⟩ => ?_
  intro d hd
  refine h _ _ [d] (same_upd hd) (.dic upd_same .nil) ⟨List.nodup_cons.mpr ⟨by simp, List.nodup_nil⟩, fun a ha => ?_⟩
  rw [List.mem_singleton.mp ha]
  exact ⟨hd, ⟨by rw [upd_same]; trivial⟩⟩
end
/-! ### calls of defs -/
/-- what a def promises: the evaluator's answer -/
abbrev Fn := List D → R KD
def spF (K : PySem.W.Frag) (CA : String → Addr) (fn : Fn) (n : Nat) : Sp := fun vs H Q E => ∃ A ds f, ds.length = n ∧ Reps K H ds vs f ∧ (∀ a ∈ f, A a) ∧
  match fn ds with
  | .ok (k, d) => ∀ v H' g, Same H H' → Rep K H' d v g → RetK A H H' k g → Q v H'
  | .ex c => ∀ H', Same H H' → E (.ref (CA c)) none H'
  | .st => False
def retK : Kd → Kd → Kd
  | .own, _ => .own
  | .bor _, k => .bor k.is
def callE (fn : Fn) (s : SA) (dd : List D) : SE := fun ρ => (s ρ).bind fun xs => (fn (xs.map (·.2) ++ dd)).bind fun kd => .ok (retK kd.1 (jn xs), kd.2)
/-- what is known of the def named x, called with n arguments, the defaults dd behind them -/
structure FnG (P : Program) (w : World) (K : PySem.W.Frag) (mg : Str → Option Value) (base : Heap) (CA : String → Addr) (fn : Fn) (k : Nat) (x : String) (dd : List D) : Prop where
  is : ∃ (f : Addr) (fd : FuncData) (ps : List Str) (dvs : List V) (ds : List Value), mg (Str.ofString x) = some (.ref f) ∧ FnOk P w K mg base (L2.CX P w) k f fd ps (spF K CA fn ps.length) ∧
    PySem.W.keepIn K (.ref f) = true ∧ Binds K fd ps ds ∧ Vals dvs ds ∧ (∀ H, Reps K H dd dvs []) ∧ ∀ as, fn as ≠ .st → as.length = ps.length
abbrev FnIs (X : Cx) (CA : String → Addr) (fn : Fn) (k : Nat) (x : String) (dd : List D) : Prop := FnG X.prog X.w X.K X.mg X.base CA fn k x dd
section
variable {X : Cx} {CXx : CXT} {k : Nat} {f : Addr} {fd : FuncData} {ps : List Str} {sp : Sp} {E : L2.St → XK} {x : Str} {p pos : Pos} {e : Expr} {es : List Expr} {t : TA} {dvs : List V} {ds : List Value}
theorem run_fnSD {pins : List (Addr × Obj)} {σ : L2.St} {H : Hp} {s : Shared} {Q : VK} {us : List Value} {vs : List V} (Fn : FnOk X.prog X.w X.K X.mg X.base CXx k f fd ps sp) (hr : Room k X.A) (hb : Binds X.K fd ps ds) (hd : Vals dvs ds) (hx : PassesAt CXx X σ (E σ))
    (I : Inv X pins σ H s) (r : Vals vs us) (h : sp (vs ++ dvs) H Q (E σ)) : wpAny (model X.prog X.w) X.A (call (.ref f) us) (EP X pins σ Q) X.xe s := by
  have r2 : Vals (vs ++ dvs) (us ++ ds) := r.append hd
  have hl : (us ++ ds).length = ps.length := by rw [← r2.length]; exact Fn.len _ _ _ _ h
  refine wpAny_call (codeAny_mono (Fn.run X.A X.stack s H ⟨us, []⟩ (us ++ ds) (vs ++ dvs) Q (E σ) hr I.env0 (hb s us I.kIn hl) r2 h) fun r s' hq => ?_)
  cases r with
  | error e => exact hx pins H s e s' I hq
  | ok fl =>
    cases fl with
    | ret u => exact I.after hq
    | next => exact False.elim hq
    | brk => exact False.elim hq
    | cont => exact False.elim hq
def tCallSD (sp : Sp) (dvs : List V) (E : L2.St → XK) (t : TA) : TE := fun σ H Q => t σ H fun vs H1 => sp (vs ++ dvs) H1 Q (E σ)
theorem pe_callSD (Fn : FnOk X.prog X.w X.K X.mg X.base CXx k f fd ps sp) (hr : Room k X.A) (hg : Gl X x) (hm : X.mg x = some (.ref f)) (hk : PySem.W.keepIn X.K (.ref f) = true) (hb : Binds X.K fd ps ds) (hd : Vals dvs ds) (hx : ∀ σ, PassesAt CXx X σ (E σ))
    (ha : PA X (e :: es) t) (hdb : (x == ("__debug__" : Str)) = false) (he : starEach (e :: es) X.env = (false, eval e X.env) :: starEach es X.env) (hpl : (backTo pos (starEach es X.env)).any (·.1) = false) :
    PE X (.Call (.Name x p) (e :: es) [] pos) (tCallSD sp dvs E t) := by
  refine ⟨fun pins s σ H Q I h => ?_⟩
  refine wpAny_Call_Name_kw (ld_glob I hg hm ?_ hdb)
  refine PySem.W.callWith_K (h₀ := X.base) I.ok.mod.kin hk (thn (ha.run pos pins s σ H _ I h) fun us s1 ⟨vs, H1, I1, r, q⟩ => ⟨I1.kIn, ?_⟩) he hpl
  exact run_fnSD Fn hr hb hd (hx σ) I1 r q
theorem pe_callSD0 (Fn : FnOk X.prog X.w X.K X.mg X.base CXx k f fd ps sp) (hr : Room k X.A) (hg : Gl X x) (hm : X.mg x = some (.ref f)) (hk : PySem.W.keepIn X.K (.ref f) = true) (hb : Binds X.K fd ps ds) (hd : Vals dvs ds) (hx : ∀ σ, PassesAt CXx X σ (E σ))
    (hdb : (x == ("__debug__" : Str)) = false) : PE X (.Call (.Name x p) [] [] pos) (tCallSD sp dvs E tNil) := by
  refine ⟨fun pins s σ H Q I h => ?_⟩
  refine wpAny_Call_Name_kw (ld_glob I hg hm ?_ hdb)
  exact PySem.W.callWith_K0 I.kIn hk (run_fnSD (us := []) Fn hr hb hd (hx σ) I .nil h)
end
section
variable {X : Cx} {CA : String → Addr} {W : WX} {fn : Fn} {k : Nat} {x : String} {p pos : Pos} {e : Expr} {es : List Expr} {s : SA} {dd : List D}
theorem call_ok {K : PySem.W.Frag} {A : Addr → Prop} {H0 H H1 : Hp} {F : Nat → List Addr} {G : List (D × V)} {ρ : Env} {σ : L2.St} {Q : VK} {xs : List KD} {vs dvs : List V} {f : List Addr} {n : Nat} (sr : SR K A H0 F G ρ σ H) (s1 : Same H H1)
    (r : Reps K H1 (xs.map (·.2)) vs f) (o : KOk A H0 F H H1 (jn xs) f) (hd : Reps K H1 dd dvs []) (hn : (vs ++ dvs).length = n)
    (h : Post CA W σ H1 ((fn (xs.map (·.2) ++ dd)).bind fun kd => .ok (retK kd.1 (jn xs), kd.2)) fun kd => Cont K A H0 F H kd Q) : spF K CA fn n (vs ++ dvs) H1 Q (WE W σ) := by
  have r2 := r.app hd
  rw [List.append_nil] at r2
  refine ⟨fun a => (∃ j ∈ (jn xs).is, a ∈ F j) ∨ Sh A H0 F a, _, f, by rw [r2.length]; exact hn, r2, o.bok sr, ?_⟩
  cases hc : fn (xs.map (·.2) ++ dd) with
  | st => rw [hc] at h; exact h.elim
  | ex c => rw [hc] at h; exact h
  | ok kd =>
    rw [hc] at h
    obtain ⟨k, d⟩ := kd
    intro v H' g s2 r3 o3
    refine h v H' g (s1.trans s2) r3 ?_
    have s12 := s1.trans s2
    cases k with
    | own => exact ⟨o3.1, fun a ha => ⟨s1.free (o3.2 a ha).1, (o3.2 a ha).2⟩⟩
    | bor is =>
      intro a ha
      rcases o3 a ha with q | q
      · exact q
      · exact .inr ⟨.inr ((sr.fr.trans s1).free q), fun j hj => ((sr.same s1).own j).2 a hj |>.2.ne q⟩
theorem e_call (tk : Takes X W) (hr : Room k X.A) (hf : FnIs X CA fn k x dd) (ha : PA X (e :: es) (tA X.K CA W s)) (hg : Gl X (Str.ofString x) := by rfl) (hdb : (Str.ofString x == ("__debug__" : Str)) = false := by decide)
    (he : starEach (e :: es) X.env = (false, eval e X.env) :: starEach es X.env := by rfl) (hpl : (backTo pos (starEach es X.env)).any (·.1) = false := by rfl) : PE X (.Call (.Name (Str.ofString x) p) (e :: es) [] pos) (tE X.K CA W (callE fn s dd)) := by
  obtain ⟨f, fd, ps, dvs, ds, hm, Fn, hk, hb, hd, hdd, hz⟩ := hf.is
  refine peI (pe_callSD Fn hr hg hm hk hb hd (fun σ => passAt tk σ) ha hdb he hpl) fun σ H Q ⟨A, H0, F, G, ρ, sr, h⟩ => ?_
  refine ⟨A, H0, F, G, ρ, sr, h.bind fun xs h1 => ?_⟩
  intro vs H1 f1 s1 r o
  refine call_ok sr s1 r o (hdd H1) ?_ (h1.later s1)
  have r2 := r.app (hdd H1)
  rw [← r2.length]
  refine hz _ fun z => ?_
  rw [z] at h1
  exact h1
theorem e_call0 (tk : Takes X W) (hr : Room k X.A) (hf : FnIs X CA fn k x dd) (hg : Gl X (Str.ofString x) := by rfl) (hdb : (Str.ofString x == ("__debug__" : Str)) = false := by decide) : PE X (.Call (.Name (Str.ofString x) p) [] [] pos) (tE X.K CA W (callE fn nilA dd)) := by
  obtain ⟨f, fd, ps, dvs, ds, hm, Fn, hk, hb, hd, hdd, hz⟩ := hf.is
  refine peI (pe_callSD0 Fn hr hg hm hk hb hd (fun σ => passAt tk σ) hdb) fun σ H Q ⟨A, H0, F, G, ρ, sr, h⟩ => ?_
  have h1 : Post CA W σ H ((fn ([] ++ dd)).bind fun kd => .ok (retK kd.1 (jn []), kd.2)) fun kd => Cont X.K A H0 F H kd Q := h
  refine call_ok (xs := []) (vs := []) sr (Same.refl H) .nil (KOk.nil _) (hdd H) ?_ h1
  have r2 := (Reps.nil (K := X.K) (H := H)).app (hdd H)
  rw [← r2.length]
  refine hz _ fun z => ?_
  rw [z] at h1
  exact h1
end
/-! ### builtins -/
/-- the reading r of a builtin is what f tells -/
def BltOk (K : PySem.W.Frag) (f : List KD → Option KD) (r : List V → Hp → VK → Prop) : Prop :=
  ∀ {A : Addr → Prop} {H0 H H1 : Hp} {F : Nat → List Addr} {G : List (D × V)} {ρ : Env} {σ : L2.St} {Q : VK} {xs : List KD} {vs : List V} {g : List Addr} {kd : KD}, SR K A H0 F G ρ σ H → Same H H1 → Reps K H1 (xs.map (·.2)) vs g → KOk A H0 F H H1 (jn xs) g →
    f xs = some kd → Cont K A H0 F H kd Q → r vs H1 Q
def bltE (f : List KD → Option KD) (s : SA) : SE := fun ρ => (s ρ).bind fun xs => R.of (f xs)
section
variable {X : Cx} {CA : String → Addr} {W : WX} {x : Str} {p pos : Pos} {e : Expr} {es : List Expr} {s : SA} {id T : String} {f : List KD → Option KD} {r : List V → Hp → VK → Prop}
theorem blt_ok {K : PySem.W.Frag} {t : TA} (hok : BltOk K f r) (σ : L2.St) (H : Hp) (Q : VK) (h : tE K CA W (bltE f s) σ H Q) : tA K CA W s σ H fun vs H1 => r vs H1 Q := by
  obtain ⟨A, H0, F, G, ρ, sr, h⟩ := h
  refine ⟨A, H0, F, G, ρ, sr, h.bind fun xs h1 => ?_⟩
  intro vs H1 g s1 rr o
  obtain ⟨kd, e, h2⟩ := h1.of
  exact hok sr s1 rr o e h2
theorem e_blt (hc : CallR X (.builtin id) r) (hok : BltOk X.K f r) (hm : X.mg x = none) (hv : bootBuiltins x = some (.builtin id)) (ha : PA X (e :: es) (tA X.K CA W s)) (hg : Gl X x := by rfl) (hn : x ≠ "__name__" := by decide) (hdb : (x == ("__debug__" : Str)) = false := by decide)
    (he : starEach (e :: es) X.env = (false, eval e X.env) :: starEach es X.env := by rfl) (hpl : (backTo pos (starEach es X.env)).any (·.1) = false := by rfl) : PE X (.Call (.Name x p) (e :: es) [] pos) (tE X.K CA W (bltE f s)) :=
  peI (pe_callB hc hg hm hv ha hn hdb he hpl) fun σ H Q h => blt_ok (t := tNil) hok σ H Q h
theorem e_bty (hc : CallR X (.type T) r) (hok : BltOk X.K f r) (hm : X.mg x = none) (hv : bootBuiltins x = some (.type T)) (ha : PA X (e :: es) (tA X.K CA W s)) (hg : Gl X x := by rfl) (hn : x ≠ "__name__" := by decide) (hdb : (x == ("__debug__" : Str)) = false := by decide)
    (he : starEach (e :: es) X.env = (false, eval e X.env) :: starEach es X.env := by rfl) (hpl : (backTo pos (starEach es X.env)).any (·.1) = false := by rfl) : PE X (.Call (.Name x p) (e :: es) [] pos) (tE X.K CA W (bltE f s)) :=
  peI (pe_callTy hc hg hm hv ha hn hdb he hpl) fun σ H Q h => blt_ok (t := tNil) hok σ H Q h
end
/-- all ints -/
def intsD : List D → Option (List Int)
  | [] => some []
  | .int i :: r => (intsD r).map (i :: ·)
  | _ :: _ => none
@[simp] theorem intsD_map : ∀ ns : List Int, intsD (ns.map D.int) = some ns
  | [] => rfl
  | n :: ns => by simp [intsD, intsD_map ns]
theorem intsD_eq : ∀ {ds : List D} {ns : List Int}, intsD ds = some ns → ds = ns.map D.int
  | [], ns, e => by simp only [intsD, Option.some.injEq] at e; subst e; rfl
  | d :: ds, ns, e => by
    cases d with
    | int i =>
      cases h : intsD ds with
      | none => simp [intsD, h] at e
      | some ms => simp only [intsD, h, Option.map_some, Option.some.injEq] at e; subst e; rw [intsD_eq h]; rfl
    | _ => simp [intsD] at e
def blsD : List D → Option (List Bool)
  | [] => some []
  | .bl i :: r => (blsD r).map (i :: ·)
  | _ :: _ => none
@[simp] theorem blsD_map : ∀ ns : List Bool, blsD (ns.map D.bl) = some ns
  | [] => rfl
  | n :: ns => by simp [blsD, blsD_map ns]
theorem blsD_eq : ∀ {ds : List D} {ns : List Bool}, blsD ds = some ns → ds = ns.map D.bl
  | [], ns, e => by simp only [blsD, Option.some.injEq] at e; subst e; rfl
  | d :: ds, ns, e => by
    cases d with
    | bl i =>
      cases h : blsD ds with
      | none => simp [blsD, h] at e
      | some ms => simp only [blsD, h, Option.map_some, Option.some.injEq] at e; subst e; rw [blsD_eq h]; rfl
    | _ => simp [blsD] at e
theorem Reps.bls_inv {K : PySem.W.Frag} {H : Hp} : ∀ {ns : List Bool} {vs : List V} {f : List Addr}, Reps K H (ns.map D.bl) vs f → vs = ns.map V.bl ∧ f = []
  | [], _, _, h => by cases h; exact ⟨rfl, rfl⟩
  | n :: ns, _, _, h => by
    cases h with
    | cons r t =>
      cases r
      obtain ⟨e1, e2⟩ := Reps.bls_inv t
      subst e1; subst e2
      exact ⟨rfl, rfl⟩
def lenD : D → Option Nat
  | .lst ds => some ds.length
  | .scr ds => some ds.length
  | .tup ds => some ds.length
  | .str z => if z.length ≤ LIM then some z.length else none
  | .dic kvs => some kvs.length
  | _ => none
def bLen : List KD → Option KD
  | [x] => (lenD x.2).map fun (n : Nat) => (Kd.own, D.int (n : Int))
  | _ => none
def maxL : List Int → Option Int
  | [] => none
  | n :: ns => some (ns.foldl max n)
def minL : List Int → Option Int
  | [] => none
  | n :: ns => some (ns.foldl min n)
def itemsD : D → Option (List D)
  | .lst ds => some ds
  | .tup ds => some ds
  | _ => none
def bMax : List KD → Option KD
  | [(_, .int i), (_, .int j)] => some (.own, .int (max i j))
  | [(_, .lst ds)] => ((intsD ds).bind maxL).map fun n => (.own, .int n)
  | [(_, .tup ds)] => ((intsD ds).bind maxL).map fun n => (.own, .int n)
  | _ => none
def bMin : List KD → Option KD
  | [(_, .int i), (_, .int j)] => some (.own, .int (min i j))
  | [(_, .lst ds)] => ((intsD ds).bind minL).map fun n => (.own, .int n)
  | [(_, .tup ds)] => ((intsD ds).bind minL).map fun n => (.own, .int n)
  | _ => none
def bSum : List KD → Option KD
  | [(_, .lst ds)] => (intsD ds).map fun ns => (.own, .int ns.sum)
  | [(_, .scr ds)] => (intsD ds).map fun ns => (.own, .int ns.sum)
  | _ => none
def bAll : List KD → Option KD
  | [(_, .lst ds)] => (blsD ds).map fun ns => (.own, .bl (ns.all id))
  | _ => none
def bAny : List KD → Option KD
  | [(_, .lst ds)] => (blsD ds).map fun ns => (.own, .bl (ns.any id))
  | _ => none
def bTup : List KD → Option KD
  | [(k, .lst ds)] => some (k, .tup ds)
  | [(k, .tup ds)] => some (k, .tup ds)
  | _ => none
def bLst : List KD → Option KD
  | [(k, .lst ds)] => some (lk k ds, .lst ds)
  | [(k, .scr ds)] => some (lk k ds, .lst ds)
  | [(k, .tup ds)] => some (lk k ds, .lst ds)
  | _ => none
def bInt : List KD → Option KD
  | [(_, .int i)] => some (.own, .int i)
  | [(_, .bl b)] => some (.own, .int (if b then 1 else 0))
  | _ => none
def bAbs : List KD → Option KD
  | [(_, .int i)] => some (.own, .int (if i < 0 then -i else i))
  | _ => none
end Cz
set_option maxHeartbeats 4000000
/-! Cz4b: the builtins' answers. -/
namespace Cz
open PySem PySem.Spec PyProof.Rows L2
section
variable {K : PySem.W.Frag} {H : Hp}
theorem Reps.one {ds : List D} {d : D} {vs : List V} {g : List Addr} (e : ds = [d]) (r : Reps K H ds vs g) : ∃ v, vs = [v] ∧ Rep K H d v g := by
  subst e
  cases r with
  | cons r t => cases t; rw [List.append_nil]; exact ⟨_, rfl, r⟩
theorem Reps.two {d d' : D} {vs : List V} {g : List Addr} (r : Reps K H [d, d'] vs g) : ∃ v v' f f', vs = [v, v'] ∧ g = f ++ f' ∧ Rep K H d v f ∧ Rep K H d' v' f' := by
  cases r with
  | cons r t => cases t with
    | cons r' t' => cases t'; exact ⟨_, _, _, _, rfl, by rw [List.append_nil], r, r'⟩
theorem foldl_max : ∀ (ns : List Int) (n : Int), ns.foldl max n ∈ n :: ns ∧ ∀ y ∈ n :: ns, y ≤ ns.foldl max n
  | [], n => ⟨by simp, fun y hy => by simp at hy; subst hy; exact Int.le_refl _⟩
  | m :: ns, n => by
    obtain ⟨h1, h2⟩ := foldl_max ns (max n m)
    refine ⟨?_, fun y hy => ?_⟩
    · show ns.foldl max (max n m) ∈ _
      rcases List.mem_cons.mp h1 with e | h1
      · rw [e]
        by_cases h : n ≤ m
        · rw [Int.max_eq_right h]; simp
        · rw [Int.max_eq_left (by omega)]; simp
      · exact List.mem_cons_of_mem _ (List.mem_cons_of_mem _ h1)
    · show y ≤ ns.foldl max (max n m)
      have h3 := h2 (max n m) List.mem_cons_self
      rcases List.mem_cons.mp hy with e | hy
      · subst e; omega
      · rcases List.mem_cons.mp hy with e | hy
        · subst e; omega
        · exact h2 y (List.mem_cons_of_mem _ hy)
theorem foldl_min : ∀ (ns : List Int) (n : Int), ns.foldl min n ∈ n :: ns ∧ ∀ y ∈ n :: ns, ns.foldl min n ≤ y
  | [], n => ⟨by simp, fun y hy => by simp at hy; subst hy; exact Int.le_refl _⟩
  | m :: ns, n => by
    obtain ⟨h1, h2⟩ := foldl_min ns (min n m)
    refine ⟨?_, fun y hy => ?_⟩
    · show ns.foldl min (min n m) ∈ _
      rcases List.mem_cons.mp h1 with e | h1
      · rw [e]
        by_cases h : n ≤ m
        · rw [Int.min_eq_left h]; simp
        · rw [Int.min_eq_right (by omega)]; simp
      · exact List.mem_cons_of_mem _ (List.mem_cons_of_mem _ h1)
    · show ns.foldl min (min n m) ≤ y
      have h3 := h2 (min n m) List.mem_cons_self
      rcases List.mem_cons.mp hy with e | hy
      · subst e; omega
      · rcases List.mem_cons.mp hy with e | hy
        · subst e; omega
        · exact h2 y (List.mem_cons_of_mem _ hy)
theorem maxL_eq {ns : List Int} {M m : Int} (e : maxL ns = some M) (h1 : m ∈ ns) (h2 : ∀ y, y ∈ ns → y ≤ m) : m = M := by
  cases ns with
  | nil => cases e
  | cons n ns =>
    simp only [maxL, Option.some.injEq] at e
    subst e
    obtain ⟨h3, h4⟩ := foldl_max ns n
    have := h2 _ h3
    have := h4 _ h1
    omega
theorem minL_eq {ns : List Int} {M m : Int} (e : minL ns = some M) (h1 : m ∈ ns) (h2 : ∀ y, y ∈ ns → m ≤ y) : m = M := by
  cases ns with
  | nil => cases e
  | cons n ns =>
    simp only [minL, Option.some.injEq] at e
    subst e
    obtain ⟨h3, h4⟩ := foldl_min ns n
    have := h2 _ h3
    have := h4 _ h1
    omega
end
/-! a call's arguments, taken apart -/
theorem one_of {α : Type} {p : List α → Prop} (h1 : ∀ x, p [x]) (xs : List α) (h : ¬ ∃ x, xs = [x] → False) : True := trivial
def rLenA (K : PySem.W.Frag) : List V → Hp → VK → Prop := fun xs H Q => (∃ p ys, xs = [.ref p] ∧ (SqL K H p ys ∨ SqT K H p ys) ∧ Q (.int ys.length) H) ∨ (∃ z, xs = [.str z] ∧ z.length ≤ sizeLine ∧ Q (.int z.length) H) ∨ ∃ a kvs, xs = [.ref a] ∧ H a = some (.dK kvs) ∧ Q (.int kvs.length) H
theorem cLen {X : Cx} : CallR X (.builtin "len") (rLenA X.K) := call_len_seq.or (call_len_str.or call_lenD)
theorem RepK.length {K : PySem.W.Frag} {H : Hp} : ∀ {d : List (Key × D)} {v : List (Key × V)} {f : List Addr}, RepK K H d v f → d.length = v.length
  | _, _, _, .nil => rfl
  | _, _, _, .cons _ t => by simp [RepK.length t]
theorem oLen {K : PySem.W.Frag} : BltOk K bLen (rLenA K) := by
  intro A H0 H H1 F G ρ σ Q xs vs g kd sr s1 r o e h
  match xs, e with
  | [(k, d)], e =>
    obtain ⟨v, rfl, r0⟩ := r.one (d := d) rfl
    have e : (lenD d).map (fun n : Nat => ((Kd.own, D.int (n : Int)) : KD)) = some kd := e
    cases r0 with
    | tup t q => simp only [lenD, Option.map_some, Option.some.injEq] at e; subst e; exact .inl ⟨_, _, rfl, .inr t, by rw [← q.length]; exact h.atom s1 (.int _)⟩
    | lst t q => simp only [lenD, Option.map_some, Option.some.injEq] at e; subst e; exact .inl ⟨_, _, rfl, .inl (.of t), by rw [← q.length]; exact h.atom s1 (.int _)⟩
    | scw t q => simp only [lenD, Option.map_some, Option.some.injEq] at e; subst e; exact .inl ⟨_, _, rfl, .inl (.of t), by rw [← q.length]; exact h.atom s1 (.int _)⟩
    | scr t q =>
      simp only [lenD, Option.map_some, Option.some.injEq] at e; subst e
      rcases t with t | ⟨o, t⟩
      · exact .inl ⟨_, _, rfl, .inl (t _), by rw [← q.length]; exact h.atom s1 (.int _)⟩
      · exact .inl ⟨_, _, rfl, .inl (.inl (.inr ⟨o, t⟩)), by rw [← q.length]; exact h.atom s1 (.int _)⟩
    | dic t q => simp only [lenD, Option.map_some, Option.some.injEq] at e; subst e; exact .inr (.inr ⟨_, _, rfl, t, by rw [← q.length]; exact h.atom s1 (.int _)⟩)
    | str x =>
      simp only [lenD] at e
      split at e
      · rename_i hz; simp only [Option.map_some, Option.some.injEq] at e; subst e; exact .inr (.inl ⟨x, rfl, by rw [← lim_eq]; exact hz, h.atom s1 (.int _)⟩)
      · cases e
    | _ => simp [lenD] at e
  | [], e => cases e
  | _ :: _ :: _, e => cases e
def rMaxA (K : PySem.W.Frag) : List V → Hp → VK → Prop := fun xs H Q => (∃ i j, xs = [.int i, .int j] ∧ Q (.int (if j > i then j else i)) H) ∨ rMax K xs H Q ∨ rMaxT K xs H Q
def rMinA (K : PySem.W.Frag) : List V → Hp → VK → Prop := fun xs H Q => (∃ i j, xs = [.int i, .int j] ∧ Q (.int (if j < i then j else i)) H) ∨ rMin K xs H Q ∨ rMinT K xs H Q
theorem cMax {X : Cx} (hc : X.calm = true) : CallR X (.builtin "max") (rMaxA X.K) := (call_max2 hc).or ((cr_max hc).or (cr_maxT hc))
theorem cMin {X : Cx} (hc : X.calm = true) : CallR X (.builtin "min") (rMinA X.K) := (call_min2 hc).or ((cr_min hc).or (cr_minT hc))
theorem max2_eq (i j : Int) : (if j > i then j else i) = max i j := by
  by_cases h : j > i
  · rw [if_pos h, Int.max_eq_right (by omega)]
  · rw [if_neg h, Int.max_eq_left (by omega)]
theorem min2_eq (i j : Int) : (if j < i then j else i) = min i j := by
  by_cases h : j < i
  · rw [if_pos h, Int.min_eq_right (by omega)]
  · rw [if_neg h, Int.min_eq_left (by omega)]
theorem oMax {K : PySem.W.Frag} : BltOk K bMax (rMaxA K) := by
  intro A H0 H H1 F G ρ σ Q xs vs g kd sr s1 r o e h
  unfold bMax at e
  split at e
  · cases e
    obtain ⟨v, v', f, f', rfl, _, r1, r2⟩ := r.two
    cases r1; cases r2
    exact .inl ⟨_, _, rfl, by rw [max2_eq]; exact h.atom s1 (.int _)⟩
  · rename_i k ds
    obtain ⟨v, rfl, r0⟩ := r.one (d := .lst ds) rfl
    obtain ⟨a, ws, g', rfl, t, q, _, _⟩ := r0.lstI
    cases h1 : intsD ds with
    | none => rw [h1] at e; cases e
    | some ns =>
      rw [h1] at e
      cases h2 : maxL ns with
      | none => simp [h2] at e
      | some M =>
        simp only [Option.bind_some, h2, Option.map_some, Option.some.injEq] at e
        subst e
        have ed := intsD_eq h1
        subst ed
        obtain ⟨e1, _⟩ := q.ints_inv
        subst e1
        exact .inr (.inl ⟨a, ns, rfl, t, by cases ns with | nil => cases h2 | cons _ _ => simp, fun m m1 m2 => by rw [maxL_eq h2 m1 m2]; exact h.atom s1 (.int _)⟩)
  · rename_i k ds
    obtain ⟨v, rfl, r0⟩ := r.one (d := .tup ds) rfl
    obtain ⟨a, ws, rfl, t, q⟩ := r0.tupI
    cases h1 : intsD ds with
    | none => rw [h1] at e; cases e
    | some ns =>
      rw [h1] at e
      cases h2 : maxL ns with
      | none => simp [h2] at e
      | some M =>
        simp only [Option.bind_some, h2, Option.map_some, Option.some.injEq] at e
        subst e
        have ed := intsD_eq h1
        subst ed
        obtain ⟨e1, _⟩ := q.ints_inv
        subst e1
        exact .inr (.inr ⟨a, ns, rfl, t, by cases ns with | nil => cases h2 | cons _ _ => simp, fun m m1 m2 => by rw [maxL_eq h2 m1 m2]; exact h.atom s1 (.int _)⟩)
  · cases e
theorem oMin {K : PySem.W.Frag} : BltOk K bMin (rMinA K) := by
  intro A H0 H H1 F G ρ σ Q xs vs g kd sr s1 r o e h
  unfold bMin at e
  split at e
  · cases e
    obtain ⟨v, v', f, f', rfl, _, r1, r2⟩ := r.two
    cases r1; cases r2
    exact .inl ⟨_, _, rfl, by rw [min2_eq]; exact h.atom s1 (.int _)⟩
  · rename_i k ds
    obtain ⟨v, rfl, r0⟩ := r.one (d := .lst ds) rfl
    obtain ⟨a, ws, g', rfl, t, q, _, _⟩ := r0.lstI
    cases h1 : intsD ds with
    | none => rw [h1] at e; cases e
    | some ns =>
      rw [h1] at e
      cases h2 : minL ns with
      | none => simp [h2] at e
      | some M =>
        simp only [Option.bind_some, h2, Option.map_some, Option.some.injEq] at e
        subst e
        have ed := intsD_eq h1
        subst ed
        obtain ⟨e1, _⟩ := q.ints_inv
        subst e1
        exact .inr (.inl ⟨a, ns, rfl, t, by cases ns with | nil => cases h2 | cons _ _ => simp, fun m m1 m2 => by rw [minL_eq h2 m1 m2]; exact h.atom s1 (.int _)⟩)
  · rename_i k ds
    obtain ⟨v, rfl, r0⟩ := r.one (d := .tup ds) rfl
    obtain ⟨a, ws, rfl, t, q⟩ := r0.tupI
    cases h1 : intsD ds with
    | none => rw [h1] at e; cases e
    | some ns =>
      rw [h1] at e
      cases h2 : minL ns with
      | none => simp [h2] at e
      | some M =>
        simp only [Option.bind_some, h2, Option.map_some, Option.some.injEq] at e
        subst e
        have ed := intsD_eq h1
        subst ed
        obtain ⟨e1, _⟩ := q.ints_inv
        subst e1
        exact .inr (.inr ⟨a, ns, rfl, t, by cases ns with | nil => cases h2 | cons _ _ => simp, fun m m1 m2 => by rw [minL_eq h2 m1 m2]; exact h.atom s1 (.int _)⟩)
  · cases e
theorem oSum {K : PySem.W.Frag} : BltOk K bSum (rSum K) := by
  intro A H0 H H1 F G ρ σ Q xs vs g kd sr s1 r o e h
  unfold bSum at e
  split at e
  · rename_i k ds
    obtain ⟨v, rfl, r0⟩ := r.one (d := .lst ds) rfl
    obtain ⟨a, ws, g', rfl, t, q, _, _⟩ := r0.lstI
    cases h1 : intsD ds with
    | none => rw [h1] at e; cases e
    | some ns =>
      rw [h1] at e
      simp only [Option.map_some, Option.some.injEq] at e
      subst e
      have ed := intsD_eq h1
      subst ed
      obtain ⟨e1, _⟩ := q.ints_inv
      subst e1
      exact ⟨a, ns, rfl, t, h.atom s1 (.int _)⟩
  · rename_i k ds
    obtain ⟨v, rfl, r0⟩ := r.one (d := .scr ds) rfl
    obtain ⟨a, ws, g', rfl, t, q, _, _⟩ := r0.scrI
    cases h1 : intsD ds with
    | none => rw [h1] at e; cases e
    | some ns =>
      rw [h1] at e
      simp only [Option.map_some, Option.some.injEq] at e
      subst e
      have ed := intsD_eq h1
      subst ed
      obtain ⟨e1, _⟩ := q.ints_inv
      subst e1
      exact ⟨a, ns, rfl, t, h.atom s1 (.int _)⟩
  · cases e
theorem oAll {K : PySem.W.Frag} : BltOk K bAll (rAll K) := by
  intro A H0 H H1 F G ρ σ Q xs vs g kd sr s1 r o e h
  unfold bAll at e
  split at e
  · rename_i k ds
    obtain ⟨v, rfl, r0⟩ := r.one (d := .lst ds) rfl
    obtain ⟨a, ws, g', rfl, t, q, _, _⟩ := r0.lstI
    cases h1 : blsD ds with
    | none => rw [h1] at e; cases e
    | some ns =>
      rw [h1] at e
      simp only [Option.map_some, Option.some.injEq] at e
      subst e
      have ed := blsD_eq h1
      subst ed
      obtain ⟨e1, _⟩ := q.bls_inv
      subst e1
      exact ⟨a, ns, rfl, t, h.atom s1 (.bl _)⟩
  · cases e
theorem oAny {K : PySem.W.Frag} : BltOk K bAny (rAny K) := by
  intro A H0 H H1 F G ρ σ Q xs vs g kd sr s1 r o e h
  unfold bAny at e
  split at e
  · rename_i k ds
    obtain ⟨v, rfl, r0⟩ := r.one (d := .lst ds) rfl
    obtain ⟨a, ws, g', rfl, t, q, _, _⟩ := r0.lstI
    cases h1 : blsD ds with
    | none => rw [h1] at e; cases e
    | some ns =>
      rw [h1] at e
      simp only [Option.map_some, Option.some.injEq] at e
      subst e
      have ed := blsD_eq h1
      subst ed
      obtain ⟨e1, _⟩ := q.bls_inv
      subst e1
      exact ⟨a, ns, rfl, t, h.atom s1 (.bl _)⟩
  · cases e
def rTupA (K : PySem.W.Frag) : List V → Hp → VK → Prop := fun xs H Q => ∃ p ys, xs = [.ref p] ∧ ((SqL K H p ys ∧ ∀ l, H l = none → Q (.ref l) (upd H l (.tup ys))) ∨ (SqT K H p ys ∧ Q (.ref p) H))
def rLstA (K : PySem.W.Frag) : List V → Hp → VK → Prop := fun xs H Q => ∃ p ys, xs = [.ref p] ∧ (SqL K H p ys ∨ SqT K H p ys) ∧ ∀ l, H l = none → Q (.ref l) (upd H l (.lst ys))
theorem oTup {K : PySem.W.Frag} : BltOk K bTup (rTupA K) := by
  intro A H0 H H1 F G ρ σ Q xs vs g kd sr s1 r o e h
  unfold bTup at e
  have jk : ∀ {k : Kd} {d : D}, KOk A H0 F H H1 (jn [(k, d)]) g → KOk A H0 F H H1 k g := fun {k d} o => by
    cases k with
    | own => exact o
    | bor is => have : KOk A H0 F H H1 (.bor (is ++ [])) g := o; rw [List.append_nil] at this; exact this
  split at e
  · rename_i k ds
    cases e
    obtain ⟨v, rfl, r0⟩ := r.one (d := .lst ds) rfl
    obtain ⟨a, ws, g', rfl, t, q, i1, n1⟩ := r0.lstI
    exact ⟨a, ws, rfl, .inl ⟨t, fun l hl => h.newT s1 q ((jk o).sub i1 n1) hl⟩⟩
  · rename_i k ds
    cases e
    obtain ⟨v, rfl, r0⟩ := r.one (d := .tup ds) rfl
    obtain ⟨a, ws, rfl, t, q⟩ := r0.tupI
    exact ⟨a, ws, rfl, .inr ⟨t, h _ _ g s1 (.tup t q) (jk o)⟩⟩
  · cases e
theorem oLst {K : PySem.W.Frag} : BltOk K bLst (rLstA K) := by
  intro A H0 H H1 F G ρ σ Q xs vs g kd sr s1 r o e h
  unfold bLst at e
  have jk : ∀ {k : Kd} {d : D}, KOk A H0 F H H1 (jn [(k, d)]) g → KOk A H0 F H H1 k g := fun {k d} o => by
    cases k with
    | own => exact o
    | bor is => have : KOk A H0 F H H1 (.bor (is ++ [])) g := o; rw [List.append_nil] at this; exact this
  split at e
  · rename_i k ds
    cases e
    obtain ⟨v, rfl, r0⟩ := r.one (d := .lst ds) rfl
    obtain ⟨a, ws, g', rfl, t, q, i1, n1⟩ := r0.lstI
    exact ⟨a, ws, rfl, .inl t, fun l hl => h.newL sr s1 q (((jk o).sub i1 n1).lk q) hl⟩
  · rename_i k ds
    cases e
    obtain ⟨v, rfl, r0⟩ := r.one (d := .scr ds) rfl
    obtain ⟨a, ws, g', rfl, t, q, i1, n1⟩ := r0.scrI
    exact ⟨a, ws, rfl, .inl t, fun l hl => h.newL sr s1 q (((jk o).sub i1 n1).lk q) hl⟩
  · rename_i k ds
    cases e
    obtain ⟨v, rfl, r0⟩ := r.one (d := .tup ds) rfl
    obtain ⟨a, ws, rfl, t, q⟩ := r0.tupI
    exact ⟨a, ws, rfl, .inr t, fun l hl => h.newL sr s1 q ((jk o).lk q) hl⟩
  · cases e
theorem oInt {K : PySem.W.Frag} : BltOk K bInt (fun xs H Q => (∃ i, xs = [.int i] ∧ Q (.int i) H) ∨ ∃ k, xs = [.bl k] ∧ Q (.int (if k then 1 else 0)) H) := by
  intro A H0 H H1 F G ρ σ Q xs vs g kd sr s1 r o e h
  unfold bInt at e
  split at e
  · cases e
    obtain ⟨v, rfl, r0⟩ := r.one rfl
    cases r0
    exact .inl ⟨_, rfl, h.atom s1 (.int _)⟩
  · cases e
    obtain ⟨v, rfl, r0⟩ := r.one rfl
    cases r0
    exact .inr ⟨_, rfl, h.atom s1 (.int _)⟩
  · cases e
/-! isinstance(x, T) -/
def tyD : D → String
  | .non => "NoneType" | .bl _ => "bool" | .int _ => "int" | .str _ => "str" | .tup _ => "tuple" | .lst _ => "list" | .scr _ => "list" | .dic _ => "dict"
def isiE (a : SE) (T : String) : SE := fun ρ => (a ρ).bind fun x => match kitB (tyD x.2) T with
  | some b => .ok (.own, .bl b)
  | none => .st
theorem tyD_ok {K : PySem.W.Frag} {H : Hp} {d : D} {v : V} {f : List Addr} (r : Rep K H d v f) : TyX K H v (.type (tyD d)) := by
  cases r with
  | non => exact .base .non
  | bl b => exact .base (.bl b)
  | int i => exact .base (.int i)
  | str x => exact .base (.str x)
  | tup t q =>
    rcases t with (t | ⟨o, t⟩) | ⟨o, its, n, h1, h2, _⟩
    · exact .base (.tup t)
    · exact .fTuple t
    · exact .kTuple h1 h2
  | lst t q => exact .base (.lst t)
  | scw t q => exact .base (.lst t)
  | scr t q =>
    rcases t with t | ⟨o, t⟩
    · rcases t (fun _ => none) with (t | ⟨o, t⟩) | ⟨o, its, n, h1, h2, _⟩
      · cases t
      · cases t
      · exact .kList h1 h2
    · exact .base (.frz t)
  | dic t q => exact .base (.dK t)
section
variable {X : Cx} {CA : String → Addr} {W : WX} {p p2 pos : Pos} {e : Expr} {sa : SE} {T : String}
theorem e_isi (hm : X.mg "isinstance" = none) (ht : X.mg (Str.ofString T) = none) (hv : bootBuiltins (Str.ofString T) = some (.type T)) (ha : PE X e (tE X.K CA W sa)) (hg : Gl X "isinstance" := by rfl) (hgt : Gl X (Str.ofString T) := by rfl)
    (hn : Str.ofString T ≠ "__name__" := by decide) (hd : (Str.ofString T == ("__debug__" : Str)) = false := by decide)
    (he : starEach (e :: [.Name (Str.ofString T) p2]) X.env = (false, eval e X.env) :: starEach [.Name (Str.ofString T) p2] X.env := by rfl) (hpl : (backTo pos (starEach [.Name (Str.ofString T) p2] X.env)).any (·.1) = false := by rfl) :
    PE X (.Call (.Name "isinstance" p) [e, .Name (Str.ofString T) p2] [] pos) (tE X.K CA W (isiE sa T)) := by
  refine peI (pe_callB call_isi hg hm (by decide +kernel) (pa_cons ha (pa_cons (pe_bltn (v := .ty T) hgt ht hv rfl hn hd) pa_nil (by rfl)) he) (by decide) (by decide) he hpl) fun σ H Q ⟨A, H0, F, G, ρ, sr, h⟩ => ?_
  refine ⟨A, H0, F, G, ρ, sr, h.bind fun ⟨k, d⟩ h1 => ?_⟩
  intro v H1 f s1 r o
  cases hk : kitB (tyD d) T with
  | none => simp only [hk] at h1; exact h1.elim
  | some b =>
    simp only [hk] at h1
    exact ⟨v, .ty T, _, _, b, rfl, .ty T, tyD_ok r, kit_ty hk, Cont.atom h1 s1 (.bl b)⟩
end
end Cz
set_option maxHeartbeats 1000000
/-! Cz5: stores, targets, iterables, comprehensions. -/
namespace Cz
open PySem PySem.Spec PyProof.Rows L2
/-! ### a list unpacked -/
section
variable {prog : Program} {w : World} {A : Around} {E : Value → Shared → Prop} {s : Shared}
theorem draw_list {it t : Addr} {items : Array Value} (hne : t ≠ it) : ∀ (n i : Nat) (s : Shared) (Q : List Value → Shared → Prop), s.heap.IsListIter it t i → s.heap.IsList t items → i + n ≤ items.size →
    (∀ h', h'.IsListIter it t (i + n) → Heap.SameBut it s.heap h' → Q ((items.toList.drop i).take n) { s with heap := h' }) → wpAny (model prog w) A (draw (.ref it) n) Q E s
  | 0, i, s, Q, hit, _, _, hQ => by
    show wpAny _ _ (pure []) Q E s
    exact wpAny_pure (by simpa using hQ s.heap hit (Heap.SameBut.refl ..))
  | n + 1, i, s, Q, hit, ht, hle, hQ => by
    have hlt : i < items.size := by omega
    show wpAny _ _ (pyNext (.ref it) >>= _) Q E s
    refine wpAny_bind (wpAny_pyNext_list_item hit ht (x := items[i]) (by simp [hlt]) fun h₁ hit₁ hs₁ => ?_)
    have ht₁ : h₁.IsList t items := let ⟨o, e, r⟩ := ht; ⟨o, (hs₁.2 t hne).trans e, r⟩
    refine wpAny_bind (wpAny_holding (draw_list hne n (i + 1) _ _ hit₁ ht₁ (by omega) fun h₂ hit₂ hs₂ => wpAny_pure ?_))
    have hd : items.toList.drop i = items[i] :: items.toList.drop (i + 1) := by simp [List.drop_eq_getElem_cons, hlt]
    have := hQ h₂ (by rw [show i + (n + 1) = i + 1 + n by omega]; exact hit₂) (hs₁.trans hs₂)
    rw [hd, List.take_succ_cons] at this
    exact this
theorem unpackItems_list {t : Addr} {items : Array Value} {Q : List Value → Shared → Prop} (hh : A.handled = none) (ht : s.heap.IsList t items)
    (hQ : ∀ h', Heap.ExtBut s.heap.objs.size s.heap h' → Q items.toList { s with heap := h' }) : wpAny (model prog w) A (unpackItems (.ref t) items.size none) Q E s := by
  have hlt : t ≠ s.heap.objs.size := by obtain ⟨o, ho, _⟩ := ht; exact Nat.ne_of_lt (Heap.lt_size ho)
  unfold unpackItems
  refine wpAny_bind ?_
  · unfold notIterableAtAll
    refine wpAny_bind (wpAny_specialOf ht.typeIs F.slot_list_iter.lookup ?_)
    refine wpAny_pure ?_
    simp only [Bool.false_eq_true, if_false]
    refine wpAny_bind (wpAny_holding (wpAny_pyIter_list ht ?_))
    refine wpAny_bind (wpAny_holding (draw_list hlt items.size 0 _ _ ⟨_, Heap.get?_push_size _ rfl, rfl, rfl⟩ (ht.push _) (by omega) fun h₁ hit₁ hs₁ => ?_))
    have hall : List.take items.size (List.drop 0 items.toList) = items.toList := by
      rw [List.drop_zero]; exact List.take_of_length_le (by simp)
    rw [hall]
    rw [if_neg (by simp)]
    have ht₁ : h₁.IsList t items := let ⟨o, e, r⟩ := ht.push _; ⟨o, (hs₁.2 t hlt).trans e, r⟩
    refine wpAny_bind (wpAny_holding (wpAny_pyNext_list_end hh hit₁ ht₁ (by simp) fun h₂ he₂ => ?_))
    simp only [Option.isSome_none, Bool.false_eq_true, if_false]
    refine wpAny_pure (hQ h₂ fun b o hb e => he₂ b o hb (hs₁.extBut b o hb (Heap.get?_push_of_some _ e)))
theorem assign_Tuple_list {env : PySem.Env} {elts : List Expr} {x1} {pos : Pos} {t : Addr} {items : Array Value} {Q : Unit → Shared → Prop} (hh : A.handled = none) (ht : s.heap.IsList t items)
    (hn : (assignEach elts env).length = items.size) (hstar : (assignEach elts env).findIdx? (·.1) = none)
    (h : ∀ h', Heap.ExtBut s.heap.objs.size s.heap h' → wpAny (model prog w) A (assignInOrder ((assignEach elts env).map (·.2)) items.toList) Q E { s with heap := h' }) :
    wpAny (model prog w) A (assign (.Tuple elts x1 pos) env (.ref t)) Q E s := by
  rw [assign_Tuple]
  refine wpAny_bind (wpAny_standAt ?_)
  unfold unpack
  rw [hn, hstar]
  exact wpAny_bind (wpAny_holding (unpackItems_list hh ht h))
end
def gTupL (K : PySem.W.Frag) (n : Nat) (t : TGs) : TG := fun v σ H Q => ∃ a xs, v = .ref a ∧ (SqT K H a xs ∨ SqL K H a xs) ∧ xs.length = n ∧ t xs σ H Q
theorem pg_tupL {X : Cx} {pos : Pos} {es : List Expr} {k : Nat} {t : TGs} {n : Nat} (hc : X.calm = true) (h : PGs X es t)
    (hn : (assignEach es X.env).length = n) (hst : (assignEach es X.env).findIdx? (·.1) = none) : PG X (.Tuple es k pos) (gTupL X.K n t) := by
  refine ⟨fun pins s σ H v u Q I r hw => ?_⟩
  obtain ⟨a, xs, e1, hq, hl, hw⟩ := hw
  subst e1
  cases r
  rcases hq with hq | hq
  · obtain ⟨its, rv, ht, hz⟩ := I.tuple hq
    refine assign_Tuple_tuple (I.ok.hd hc) ht (by simp [hn, ← hl, rv.length]) hst fun h' hx => ?_
    have I1 : Inv X pins σ H { s with heap := h' } := I.kept (t' := s.toks) fun b o e => hx b o (Nat.ne_of_lt (Heap.lt_size e)) e
    exact h.run pins _ σ H xs _ Q I1 (by simpa using rv) hw
  · obtain ⟨its, rv, ht, hz⟩ := I.list hq
    refine assign_Tuple_list (I.ok.hd hc) ht.isList (by simp [hn, ← hl, rv.length]) hst fun h' hx => ?_
    have I1 : Inv X pins σ H { s with heap := h' } := I.kept (t' := s.toks) fun b o e => hx b o (Nat.ne_of_lt (Heap.lt_size e)) e
    exact h.run pins _ σ H xs _ Q I1 (by simpa using rv) hw
/-! ### stores -/
def mkS : Kd → D → Sl
  | _, .int i => .bo [] (.int i)
  | _, .bl i => .bo [] (.bl i)
  | _, .str i => .bo [] (.str i)
  | _, .non => .bo [] .non
  | .own, d => .ow d
  | .bor is, d => .bo is d
def updF (F : Nat → List Addr) (i : Nat) (f : List Addr) : Nat → List Addr := fun j => if j = i then f else F j
@[simp] theorem updF_same {F : Nat → List Addr} {i : Nat} {f : List Addr} : updF F i f i = f := if_pos rfl
theorem updF_ne {F : Nat → List Addr} {i j : Nat} {f : List Addr} (h : j ≠ i) : updF F i f j = F j := if_neg h
def ndF (k : Kd) (f : List Addr) : List Addr := match k with
  | .own => f
  | .bor _ => []
section
variable {K : PySem.W.Frag} {A : Addr → Prop} {H0 H H1 H2 : Hp} {F : Nat → List Addr} {G : List (D × V)} {ρ : Env} {σ : L2.St}
/-- what is known of nodes stays when slot i gets others, that are new or none -/
theorem Sh.upd {i : Nat} {f : List Addr} {a : Addr} (sr : SR K A H0 F G ρ σ H) (hf : ∀ b ∈ f, H b = none) (ha : H a ≠ none) (h : Sh A H0 F a) : Sh A H0 (updF F i f) a :=
  ⟨h.1, fun j hj => by
    by_cases e : j = i
    · subst e; rw [updF_same] at hj; exact ha (hf a hj)
    · rw [updF_ne e] at hj; exact h.2 j hj⟩
theorem BOk.upd {i : Nat} {f g : List Addr} {is : List Nat} (sr : SR K A H0 F G ρ σ H) (hf : ∀ b ∈ f, H b = none) (hg : ∀ a ∈ g, H a ≠ none) (h : BOk A H0 F is g) : BOk A H0 (updF F i f) is g := fun a ha => by
  rcases h a ha with ⟨j, hj, q⟩ | q
  · by_cases e : j = i
    · subst e
      refine .inr ⟨.inr ((sr.own j).2 a q).1, fun m hm => ?_⟩
      by_cases e : m = j
      · subst e; rw [updF_same] at hm; exact hg a ha (hf a hm)
      · rw [updF_ne e] at hm; exact e (sr.dis _ _ a hm q)
    · exact .inl ⟨j, hj, by rw [updF_ne e]; exact q⟩
  · exact .inr (q.upd sr hf (hg a ha))
theorem fin_upd {i : Nat} {f : List Addr} (h : ∃ L, ∀ j, L ≤ j → F j = []) : ∃ L, ∀ j, L ≤ j → updF F i f j = [] := by
  obtain ⟨L, h⟩ := h
  refine ⟨max L (i + 1), fun j hj => ?_⟩
  rw [updF_ne (by omega)]
  exact h j (by omega)
/-- slot i gets v, its nodes f: new ones of its own (made behind H), or others' -/
theorem SR.set {k : Kd} {d : D} {v : V} {f : List Addr} (sr : SR K A H0 F G ρ σ H) (s : Same H H1) (r : Rep K H1 d v f) (o : KOk A H0 F H H1 k f) (i : Nat) :
    ∃ f', SR K A H0 (updF F i f') G (ρ.set i (mkS k d)) (σ.set i (some v)) H1 ∧ (∀ b ∈ f', H b = none) ∧ (k ≠ .own → f' = []) := by
  have sr1 := sr.same s
  -- the new nodes
  have main : ∀ f', (∀ b ∈ f', H b = none) → (f'.Nodup ∧ ∀ a ∈ f', Mu (H1 a)) → (∀ d', mkS k d = .ow d' → d' = d ∧ f' = f) → (∀ is d', mkS k d = .bo is d' → d' = d ∧ ∀ a ∈ f, (∃ j ∈ is, a ∈ updF F i f' j) ∨ Sh A H0 (updF F i f') a) → (f' ≠ [] → ∃ d', mkS k d = .ow d') →
      SR K A H0 (updF F i f') G (ρ.set i (mkS k d)) (σ.set i (some v)) H1 := fun f' hf hm ho hb he => by
    refine ⟨by rw [List.length_set, List.length_set]; exact sr.len, sr1.fr, fun j => ?_, fun j m a hj hm' => ?_, fun j d' e => ?_, fun j is d' e => ?_, fun p hp => ?_, fun j hj hn => ?_, fin_upd sr.fin⟩
    · by_cases e : j = i
      · subst e; rw [updF_same]; exact ⟨hm.1, fun a ha => ⟨sr.fr.free (hf a ha), hm.2 a ha⟩⟩
      · rw [updF_ne e]; exact sr1.own j
    · by_cases e : j = i
      · by_cases e' : m = i
        · rw [e, e']
        · rw [e, updF_same] at hj; rw [updF_ne e'] at hm'
          exact absurd (hf a hj) (((sr.own m).2 a hm').2.ne)
      · by_cases e' : m = i
        · rw [e', updF_same] at hm'; rw [updF_ne e] at hj
          exact absurd (hf a hm') (((sr.own j).2 a hj).2.ne)
        · rw [updF_ne e] at hj; rw [updF_ne e'] at hm'; exact sr.dis j m a hj hm'
    · by_cases h : i = j
      · subst h
        by_cases hl : i < ρ.length
        · rw [List.getElem?_set_self hl] at e
          obtain ⟨e1, e2⟩ := ho d' (Option.some.inj e)
          subst e1; subst e2
          refine ⟨v, by rw [List.getElem?_set_self (by rw [← sr.len]; exact hl)], by rw [updF_same]; exact r⟩
        · rw [List.getElem?_eq_none (by simpa using hl)] at e; cases e
      · rw [List.getElem?_set_ne h] at e; rw [List.getElem?_set_ne h, updF_ne (Ne.symm h)]; exact sr1.slo j d' e
    · by_cases h : i = j
      · subst h
        by_cases hl : i < ρ.length
        · rw [List.getElem?_set_self hl] at e
          obtain ⟨e1, e2⟩ := hb is d' (Option.some.inj e)
          subst e1
          refine ⟨v, f, by rw [List.getElem?_set_self (by rw [← sr.len]; exact hl)], r, e2⟩
        · rw [List.getElem?_eq_none (by simpa using hl)] at e; cases e
      · rw [List.getElem?_set_ne h] at e; rw [List.getElem?_set_ne h]
        obtain ⟨v', g, h1, h2, h3⟩ := sr.slb j is d' e
        exact ⟨v', g, h1, h2.same s, h3.upd sr hf h2.trk⟩
    · obtain ⟨g, h1, h2⟩ := sr.gho p hp
      exact ⟨g, h1.same s, fun a ha => (h2 a ha).upd sr hf (h1.trk a ha)⟩
    · rw [List.length_set] at hj
      by_cases h : i = j
      · subst h
        rw [updF_same] at hn
        obtain ⟨d', e'⟩ := he hn
        exact ⟨d', by rw [List.getElem?_set_self hj, e']⟩
      · rw [updF_ne (Ne.symm h)] at hn
        obtain ⟨d', e'⟩ := sr.emp j hj hn
        exact ⟨d', by rw [List.getElem?_set_ne h]; exact e'⟩
  have atom : f = [] → mkS k d = .bo [] d → ∃ f', SR K A H0 (updF F i f') G (ρ.set i (mkS k d)) (σ.set i (some v)) H1 ∧ (∀ b ∈ f', H b = none) ∧ (k ≠ .own → f' = []) := fun e1 e2 =>
    ⟨[], main [] (fun b hb => nomatch hb) ⟨List.nodup_nil, fun a ha => nomatch ha⟩ (fun d' e => by rw [e2] at e; cases e) (fun is d' e => by rw [e2] at e; cases e; exact ⟨rfl, fun a ha => by rw [e1] at ha; cases ha⟩) (fun z => absurd rfl z), (fun b hb => nomatch hb), fun _ => rfl⟩
  have big : mkS k d = (match k with | .own => .ow d | .bor is => .bo is d) → ∃ f', SR K A H0 (updF F i f') G (ρ.set i (mkS k d)) (σ.set i (some v)) H1 ∧ (∀ b ∈ f', H b = none) ∧ (k ≠ .own → f' = []) := fun e => by
    cases k with
    | own => exact ⟨f, main f (fun b hb => (o.2 b hb).1) ⟨o.1, fun a ha => (o.2 a ha).2⟩ (fun d' e' => by rw [e] at e'; cases e'; exact ⟨rfl, rfl⟩) (fun is d' e' => by rw [e] at e'; cases e') (fun _ => ⟨d, e⟩), fun b hb => (o.2 b hb).1, fun z => absurd rfl z⟩
    | bor js =>
      refine ⟨[], main [] (fun b hb => nomatch hb) ⟨List.nodup_nil, fun a ha => nomatch ha⟩ (fun d' e' => by rw [e] at e'; cases e') (fun is d' e' => ?_) (fun z => absurd rfl z), (fun b hb => nomatch hb), fun _ => rfl⟩
      rw [e] at e'; cases e'
      exact ⟨rfl, BOk.upd sr1 (f := []) (fun b hb => nomatch hb) r.trk o⟩
  cases d with
  | int n => cases r; exact atom rfl (by cases k <;> rfl)
  | bl n => cases r; exact atom rfl (by cases k <;> rfl)
  | str n => cases r; exact atom rfl (by cases k <;> rfl)
  | non => cases r; exact atom rfl (by cases k <;> rfl)
  | _ => exact big (by cases k <;> rfl)
end
/-! ### targets -/
abbrev Tgt := Kd → D → Env → Option Env
abbrev Tgts := List Nat → List D → Env → Option Env
def tgN (i : Nat) : Tgt := fun k d ρ => some (ρ.set i (mkS k d))
def tgT (t : Tgts) : Tgt := fun k d ρ => match d with
  | .tup ds => t k.is ds ρ
  | .lst ds => t k.is ds ρ
  | _ => none
def tgNil : Tgts := fun _ ds ρ => match ds with
  | [] => some ρ
  | _ :: _ => none
def tgCons (t : Tgt) (r : Tgts) : Tgts := fun is ds ρ => match ds with
  | [] => none
  | d :: ds => (t (.bor is) d ρ).bind fun ρ' => r is ds ρ'
/-- what is known of nodes is carried over -/
def Trn (A : Addr → Prop) (H0 H : Hp) (F F' : Nat → List Addr) : Prop := ∀ js g, (∀ a ∈ g, H a ≠ none) → BOk A H0 F js g → BOk A H0 F' js g
/-- behind a target -/
structure TP (K : PySem.W.Frag) (A : Addr → Prop) (H0 Hb H : Hp) (F F' : Nat → List Addr) (G : List (D × V)) (ρ' : Env) (σ σ' : L2.St) (sl : List Nat) (b : Bool) : Prop where
  sr : SR K A H0 F' G ρ' σ' H
  tr : Trn A H0 Hb F F'
  len : σ'.length = σ.length
  out : ∀ j, j ∉ sl → σ'[j]? = σ[j]? ∧ F' j = F j
  bor : b = true → ∀ j ∈ sl, F' j = []
def Kd.isB : Kd → Bool
  | .own => false
  | .bor _ => true
def tG (K : PySem.W.Frag) (sl : List Nat) (t : Tgt) : TG := fun v σ H Q => ∃ A H0 Hb F G ρ k d f, SR K A H0 F G ρ σ Hb ∧ Same Hb H ∧ Rep K H d v f ∧ KOk A H0 F Hb H k f ∧
  match t k d ρ with
  | some ρ' => ∀ σ' F', TP K A H0 Hb H F F' G ρ' σ σ' sl k.isB → Q σ' H
  | none => False
def tGs (K : PySem.W.Frag) (sl : List Nat) (t : Tgts) : TGs := fun vs σ H Q => ∃ A H0 F G ρ is ds f, SR K A H0 F G ρ σ H ∧ Reps K H ds vs f ∧ BOk A H0 F is f ∧
  match t is ds ρ with
  | some ρ' => ∀ σ' F', TP K A H0 H H F F' G ρ' σ σ' sl true → Q σ' H
  | none => False
section
variable {X : Cx} {pos : Pos}
theorem pgI {e : Expr} {t t' : TG} (h : PG X e t) (k : ∀ v σ H Q, t' v σ H Q → t v σ H Q) : PG X e t' := ⟨fun pins s σ H v u Q I r q => h.run pins s σ H v u Q I r (k v σ H Q q)⟩
theorem pgsI {e : List Expr} {t t' : TGs} (h : PGs X e t) (k : ∀ v σ H Q, t' v σ H Q → t v σ H Q) : PGs X e t' := ⟨fun pins s σ H v u Q I r q => h.run pins s σ H v u Q I r (k v σ H Q q)⟩
theorem g_nm (i : Nat) {x : Str} (hN : X.N.Nodup) (hi : X.N[i]? = some x := by rfl) (hx : Loc X.env.scope x := by first | exact Or.inl rfl | exact Or.inr rfl) (hf : X.fn x = true ∨ X.env.scope.names.lookup x = some .local := by first | exact .inl rfl | exact .inr rfl | assumption) :
    PG X (.Name x pos) (tG X.K [i] (tgN i)) := by
  refine pgI (pg_name hN hi hx hf) fun v σ H Q ⟨A, H0, Hb, F, G, ρ, k, d, f, sr, s, r, o, h⟩ => ?_
  obtain ⟨f', sr', hf', hb⟩ := sr.set s r o i
  refine h _ _ ⟨sr', fun js g hg hb => hb.upd sr hf' hg, by rw [List.length_set], fun j hj => ?_, fun hk j hj => ?_⟩
  · have hj : j ≠ i := by simpa using hj
    exact ⟨by rw [List.getElem?_set_ne (Ne.symm hj)], updF_ne hj⟩
  · have hj : j = i := by simpa using hj
    subst hj
    rw [updF_same]
    exact hb (fun z => by rw [z] at hk; cases hk)
theorem gs_nil : PGs X [] (tGs X.K [] tgNil) := by
  refine pgsI pgs_nil fun vs σ H Q ⟨A, H0, F, G, ρ, is, ds, f, sr, r, o, h⟩ => ?_
  cases r with
  | nil => exact ⟨rfl, h _ _ ⟨sr, fun _ _ _ q => q, rfl, fun _ _ => ⟨rfl, rfl⟩, fun _ j hj => nomatch hj⟩⟩
  | cons _ _ => exact h.elim
theorem gs_cons {e : Expr} {es : List Expr} {t : Tgt} {u : Tgts} {sl sl' : List Nat} (h1 : PG X e (tG X.K sl t)) (h2 : PGs X es (tGs X.K sl' u))
    (hs : (assignEach (e :: es) X.env).map (·.2) = assign e X.env :: (assignEach es X.env).map (·.2) := by rfl) : PGs X (e :: es) (tGs X.K (sl ++ sl') (tgCons t u)) := by
  refine pgsI (pgs_cons h1 h2 hs) fun vs σ H Q ⟨A, H0, F, G, ρ, is, ds, f, sr, r, o, h⟩ => ?_
  cases r with
  | nil => exact h.elim
  | @cons d v f1 ds vs f2 r rr =>
    refine ⟨_, _, rfl, A, H0, H, F, G, ρ, .bor is, _, f1, sr, Same.refl _, r, fun a ha => o a (List.mem_append_left _ ha), ?_⟩
    have h : match (t (.bor is) d ρ).bind fun ρ' => u is ds ρ' with
      | some ρ' => ∀ σ' F', TP X.K A H0 H H F F' G ρ' σ σ' (sl ++ sl') true → Q σ' H
      | none => False := h
    cases ht : t (.bor is) d ρ with
    | none => rw [ht] at h; exact h.elim
    | some ρ1 =>
      rw [ht] at h
      intro σ1 F1 p1
      refine ⟨A, H0, F1, G, ρ1, is, ds, f2, p1.sr, rr, p1.tr _ _ rr.trk fun a ha => o a (List.mem_append_right _ ha), ?_⟩
      have h : match u is ds ρ1 with
        | some ρ' => ∀ σ' F', TP X.K A H0 H H F F' G ρ' σ σ' (sl ++ sl') true → Q σ' H
        | none => False := h
      cases hu : u is ds ρ1 with
      | none => rw [hu] at h; exact h.elim
      | some ρ2 =>
        rw [hu] at h
        intro σ2 F2 p2
        refine h σ2 F2 ⟨p2.sr, fun js g hg hb => p2.tr js g hg (p1.tr js g hg hb), p2.len.trans p1.len, fun j hj => ?_, fun _ j hj => ?_⟩
        · have hj1 : j ∉ sl := fun z => hj (List.mem_append_left _ z)
          have hj2 : j ∉ sl' := fun z => hj (List.mem_append_right _ z)
          exact ⟨(p2.out j hj2).1.trans (p1.out j hj1).1, (p2.out j hj2).2.trans (p1.out j hj1).2⟩
        · by_cases hj2 : j ∈ sl'
          · exact p2.bor rfl j hj2
          · rw [(p2.out j hj2).2]
            exact p1.bor rfl j ((List.mem_append.mp hj).resolve_right hj2)
/-- the targets take so many -/
def TgLen (t : Tgts) (n : Nat) : Prop := ∀ is ds ρ, t is ds ρ ≠ none → ds.length = n
theorem tgLen_nil : TgLen tgNil 0 := fun is ds ρ h => by
  cases ds with
  | nil => rfl
  | cons _ _ => exact absurd rfl h
theorem tgLen_cons {t : Tgt} {u : Tgts} {n : Nat} (h : TgLen u n) : TgLen (tgCons t u) (n + 1) := fun is ds ρ q => by
  cases ds with
  | nil => exact absurd rfl q
  | cons d ds =>
    have q : (t (.bor is) d ρ).bind (fun ρ' => u is ds ρ') ≠ none := q
    cases ht : t (.bor is) d ρ with
    | none => rw [ht] at q; exact absurd rfl q
    | some ρ1 => rw [ht] at q; rw [List.length_cons, h is ds ρ1 q]
theorem g_tup {es : List Expr} {k : Nat} {t : Tgts} {n : Nat} {sl : List Nat} (hc : X.calm = true) (hl : TgLen t n) (h : PGs X es (tGs X.K sl t))
    (hn : (assignEach es X.env).length = n := by rfl) (hst : (assignEach es X.env).findIdx? (·.1) = none := by rfl) : PG X (.Tuple es k pos) (tG X.K sl (tgT t)) := by
  refine pgI (pg_tupL hc h hn hst) fun v σ H Q ⟨A, H0, Hb, F, G, ρ, kk, d, f, sr, s, r, o, q⟩ => ?_
  have bk := o.bok sr
  have fin : ∀ ds vs g, Reps X.K H ds vs g → (∀ b ∈ g, b ∈ f) → (match t kk.is ds ρ with
      | some ρ' => ∀ σ' F', TP X.K A H0 Hb H F F' G ρ' σ σ' sl kk.isB → Q σ' H
      | none => False) → vs.length = n ∧ tGs X.K sl t vs σ H Q := fun ds vs g q1 i1 q2 => by
    cases ht : t kk.is ds ρ with
    | none => rw [ht] at q2; exact q2.elim
    | some ρ1 =>
      rw [ht] at q2
      refine ⟨by rw [← q1.length]; exact hl _ _ _ (by rw [ht]; exact fun z => nomatch z), A, H0, F, G, ρ, kk.is, ds, g, sr.same s, q1, fun a ha => bk a (i1 a ha), ?_⟩
      rw [ht]
      intro σ' F' p
      exact q2 σ' F' ⟨p.sr, fun js g hg hb => p.tr js g (fun a ha z => hg a ha (s.free z)) hb, p.len, p.out, fun _ => p.bor rfl⟩
  cases d with
  | tup ds =>
    obtain ⟨a, vs, rfl, t1, q1⟩ := r.tupI
    obtain ⟨e1, e2⟩ := fin ds vs f q1 (fun _ h => h) q
    exact ⟨a, vs, rfl, .inl t1, e1, e2⟩
  | lst ds =>
    obtain ⟨a, vs, g, rfl, t1, q1, i1, n1⟩ := r.lstI
    obtain ⟨e1, e2⟩ := fin ds vs g q1 i1 q
    exact ⟨a, vs, rfl, .inr t1, e1, e2⟩
  | _ => exact q.elim
end
end Cz
set_option maxHeartbeats 1000000
/-! Cz6: iterables and list comprehensions. -/
namespace Cz
open PySem PySem.Spec PyProof.Rows L2
abbrev SI := Env → R (Kd × List D)
def Gh (K : PySem.W.Frag) (H : Hp) (P : Addr → Prop) (gh : List (D × V)) : Prop := ∀ p ∈ gh, ∃ f, Rep K H p.1 p.2 f ∧ ∀ a ∈ f, P a
/-- the walk J gives ds, while gh stands -/
structure IterOk (K : PySem.W.Frag) (J : It) (ds : List D) (gh : List (D × V)) : Prop where
  go : ∀ H P i, i < ds.length → Gh K H P gh → J.go i H
  stop : ∀ H P, Gh K H P gh → J.stop ds.length H
  yld : ∀ H P i x H', i < ds.length → Gh K H P gh → J.yld i H x H' → Same H H' ∧ ∃ d f, ds[i]? = some d ∧ Rep K H' d x f ∧ ∀ a ∈ f, P a
def tI (K : PySem.W.Frag) (CA : String → Addr) (W : WX) (s : SI) : TI := fun σ H R =>
  ∃ A H0 F G ρ, SR K A H0 F G ρ σ H ∧ Post CA W σ H (s ρ) fun kds => ∀ J H1 gh, Same H H1 → IterOk K J kds.2 gh → Gh K H1 (fun a => (∃ j ∈ kds.1.is, a ∈ F j) ∨ Sh A H0 F a) gh → R J H1
theorem Gh.same {K : PySem.W.Frag} {H H' : Hp} {P : Addr → Prop} {gh : List (D × V)} (h : Gh K H P gh) (s : Same H H') : Gh K H' P gh := fun p hp => let ⟨f, h1, h2⟩ := h p hp; ⟨f, h1.same s, h2⟩
/-! ### lists, tuples, texts -/
def iSeq (K : PySem.W.Frag) (tl : TE) : TI := fun σ H R => tl σ H fun x H1 => (∃ a, x = .ref a ∧ (∃ xs, SqL K H1 a xs) ∧ R (Itl K a) H1) ∨ (∃ a, x = .ref a ∧ (∃ xs, SqT K H1 a xs) ∧ R (Itt K a) H1) ∨ (∃ z, x = .str z ∧ R (Its z) H1)
theorem pi_seq {X : Cx} {tg l : Expr} {tl : TE} (hl : PE X l tl) : PI X tg l (iSeq X.K tl) := by
  refine ⟨fun pins s σ H R I h => ?_⟩
  refine thn (hl.run pins s σ H _ I h) fun v s1 ⟨x, H1, I1, r1, q1⟩ => ?_
  rcases q1 with ⟨a, e, ⟨xs, hq⟩, q⟩ | ⟨a, e, ⟨xs, hq⟩, q⟩ | ⟨z, e, q⟩
  · subst e
    cases r1
    obtain ⟨its, rv, p, hz⟩ := I1.list hq
    refine wpAny_pyIter_list p.isList ?_
    refine ⟨s1.heap.objs.size, [s1.heap.objs.size], _, _, H1, rfl, I1.kept (t' := s1.toks) fun b o e => Heap.get?_push_of_some _ e, turn_list a _, ⟨_, Heap.get?_push_size _ rfl, rfl, rfl⟩, fun b hb => ?_, q⟩
    have e : b = s1.heap.objs.size := by simpa using hb
    subst e
    exact I1.fpOk (Nat.le_refl _) (I1.hok.fresh (Nat.le_refl _))
  · subst e
    cases r1
    obtain ⟨its, rv, p, hz⟩ := I1.tuple hq
    refine wpAny_pyIter_tuple (show s1.heap.IsTuple a its.toArray from p) ?_
    refine ⟨s1.heap.objs.size, [s1.heap.objs.size], _, _, H1, rfl, I1.kept (t' := s1.toks) fun b o e => Heap.get?_push_of_some _ e, turn_tuple a _, ⟨_, Heap.get?_push_size _ rfl, rfl, rfl⟩, fun b hb => ?_, q⟩
    have e : b = s1.heap.objs.size := by simpa using hb
    subst e
    exact I1.fpOk (Nat.le_refl _) (I1.hok.fresh (Nat.le_refl _))
  · subst e
    obtain ⟨t, rfl⟩ := r1
    cases ha : z.cps.all (· < 128)
    · exact wpAny_pyIter_wide ha (pi_one (tk := s1.toks) I1 _ (turn_str _ z t "str_iterator" (.inr rfl)) ⟨_, Heap.get?_push_size _ rfl, rfl, rfl⟩ q)
    · exact wpAny_pyIter_ascii ha (pi_one (tk := s1.toks) I1 _ (turn_str _ z t "str_ascii_iterator" (.inl rfl)) ⟨_, Heap.get?_push_size _ rfl, rfl, rfl⟩ q)
def seqI (s : SE) : SI := fun ρ => (s ρ).bind fun x => match x.2 with
  | .lst ds => .ok (x.1, ds)
  | .scr ds => .ok (x.1, ds)
  | .tup ds => .ok (x.1, ds)
  | .str z => .ok (.own, z.cps.toList.map fun c => .str ⟨#[c]⟩)
  | _ => .st
section
variable {K : PySem.W.Frag}
theorem iter_lst {ds : List D} {a : Addr} : IterOk K (Itl K a) ds [(.lst ds, .ref a)] := by
  have get : ∀ {H P}, Gh K H P [(.lst ds, .ref a)] → ∃ vs g, SqL K H a vs ∧ Reps K H ds vs g ∧ ∀ b ∈ g, P b := fun {H P} h => by
    obtain ⟨f, r, hp⟩ := h _ List.mem_cons_self
    obtain ⟨a', vs, g, e, t, q, i, n⟩ := r.lstI
    cases e
    exact ⟨vs, g, t, q, fun b hb => hp b (i b hb)⟩
  refine ⟨fun H P i hi h => ?_, fun H P h => ?_, fun H P i x H' hi h y => ?_⟩
  · obtain ⟨vs, g, t, q, _⟩ := get h
    have hv : i < vs.length := by rw [← q.length]; exact hi
    exact ⟨vs, vs[i], t, by simp [hv]⟩
  · obtain ⟨vs, g, t, q, _⟩ := get h
    exact ⟨vs, t, by rw [q.length]; exact Nat.le_refl _⟩
  · obtain ⟨vs, g, t, q, hp⟩ := get h
    obtain ⟨e, y⟩ := y
    subst e
    obtain ⟨v, g', h1, h2, h3, _⟩ := q.get (i := i) (d := ds[i]) (by simp [hi])
    rw [y vs t] at h1
    cases h1
    exact ⟨Same.refl _, ds[i], g', by simp [hi], h2, fun b hb => hp b (h3 b hb)⟩
theorem iter_scr {ds : List D} {a : Addr} : IterOk K (Itl K a) ds [(.scr ds, .ref a)] := by
  have get : ∀ {H P}, Gh K H P [(.scr ds, .ref a)] → ∃ vs g, SqL K H a vs ∧ Reps K H ds vs g ∧ ∀ b ∈ g, P b := fun {H P} h => by
    obtain ⟨f, r, hp⟩ := h _ List.mem_cons_self
    obtain ⟨a', vs, g, e, t, q, i, n⟩ := r.scrI
    cases e
    exact ⟨vs, g, t, q, fun b hb => hp b (i b hb)⟩
  refine ⟨fun H P i hi h => ?_, fun H P h => ?_, fun H P i x H' hi h y => ?_⟩
  · obtain ⟨vs, g, t, q, _⟩ := get h
    have hv : i < vs.length := by rw [← q.length]; exact hi
    exact ⟨vs, vs[i], t, by simp [hv]⟩
  · obtain ⟨vs, g, t, q, _⟩ := get h
    exact ⟨vs, t, by rw [q.length]; exact Nat.le_refl _⟩
  · obtain ⟨vs, g, t, q, hp⟩ := get h
    obtain ⟨e, y⟩ := y
    subst e
    obtain ⟨v, g', h1, h2, h3, _⟩ := q.get (i := i) (d := ds[i]) (by simp [hi])
    rw [y vs t] at h1
    cases h1
    exact ⟨Same.refl _, ds[i], g', by simp [hi], h2, fun b hb => hp b (h3 b hb)⟩
theorem iter_tup {ds : List D} {a : Addr} : IterOk K (Itt K a) ds [(.tup ds, .ref a)] := by
  have get : ∀ {H P}, Gh K H P [(.tup ds, .ref a)] → ∃ vs g, SqT K H a vs ∧ Reps K H ds vs g ∧ ∀ b ∈ g, P b := fun {H P} h => by
    obtain ⟨f, r, hp⟩ := h _ List.mem_cons_self
    obtain ⟨a', vs, e, t, q⟩ := r.tupI
    cases e
    exact ⟨vs, f, t, q, hp⟩
  refine ⟨fun H P i hi h => ?_, fun H P h => ?_, fun H P i x H' hi h y => ?_⟩
  · obtain ⟨vs, g, t, q, _⟩ := get h
    have hv : i < vs.length := by rw [← q.length]; exact hi
    exact ⟨vs, vs[i], t, by simp [hv]⟩
  · obtain ⟨vs, g, t, q, _⟩ := get h
    exact ⟨vs, t, by rw [q.length]; exact Nat.le_refl _⟩
  · obtain ⟨vs, g, t, q, hp⟩ := get h
    obtain ⟨e, y⟩ := y
    subst e
    obtain ⟨v, g', h1, h2, h3, _⟩ := q.get (i := i) (d := ds[i]) (by simp [hi])
    rw [y vs t] at h1
    cases h1
    exact ⟨Same.refl _, ds[i], g', by simp [hi], h2, fun b hb => hp b (h3 b hb)⟩
theorem iter_str {z : Str} : IterOk K (Its z) (z.cps.toList.map fun c => .str ⟨#[c]⟩) [] := by
  refine ⟨fun H P i hi h => ?_, fun H P h => ?_, fun H P i x H' hi h y => ?_⟩
  · have hi : i < z.cps.size := by simpa using hi
    exact hi
  · show z.cps.size ≤ _
    simp
  · obtain ⟨e, c, hc, ex⟩ := y
    subst e; subst ex
    exact ⟨Same.refl _, _, [], by simp [hc], .str _, fun _ q => nomatch q⟩
theorem Gh.one {H : Hp} {P : Addr → Prop} {d : D} {v : V} {f : List Addr} (r : Rep K H d v f) (h : ∀ a ∈ f, P a) : Gh K H P [(d, v)] := fun p hp => by
  rw [List.mem_singleton.mp hp]; exact ⟨f, r, h⟩
end
section
variable {X : Cx} {CA : String → Addr} {W : WX} {pos p : Pos} {tg e a b : Expr} {sa sb : SE}
theorem piI {iter : Expr} {t t' : TI} (h : PI X tg iter t) (k : ∀ σ H R, t' σ H R → t σ H R) : PI X tg iter t' := ⟨fun pins s σ H R I q => h.run pins s σ H R I (k σ H R q)⟩
theorem i_seq (ha : PE X e (tE X.K CA W sa)) : PI X tg e (tI X.K CA W (seqI sa)) := by
  refine piI (pi_seq ha) fun σ H R ⟨A, H0, F, G, ρ, sr, h⟩ => ?_
  refine ⟨A, H0, F, G, ρ, sr, h.bind fun ⟨k, d⟩ h1 => ?_⟩
  intro v H1 f s1 r o
  cases d with
  | lst ds =>
    obtain ⟨a, vs, g, rfl, t, q, i1, n1⟩ := id r.lstI
    exact .inl ⟨a, rfl, ⟨vs, t⟩, h1 _ _ _ s1 iter_lst (Gh.one r (o.bok sr))⟩
  | scr ds =>
    obtain ⟨a, vs, g, rfl, t, q, i1, n1⟩ := id r.scrI
    exact .inl ⟨a, rfl, ⟨vs, t⟩, h1 _ _ _ s1 iter_scr (Gh.one r (o.bok sr))⟩
  | tup ds =>
    obtain ⟨a, vs, rfl, t, q⟩ := id r.tupI
    exact .inr (.inl ⟨a, rfl, ⟨vs, t⟩, h1 _ _ _ s1 iter_tup (Gh.one r (o.bok sr))⟩)
  | str z =>
    cases r
    exact .inr (.inr ⟨z, rfl, h1 _ _ _ s1 iter_str (fun p hp => nomatch hp)⟩)
  | _ => exact h1.elim
/-! ranges -/
noncomputable def rgOk (i : Int) : Bool := @decide (-(2 ^ 62) ≤ i) (Classical.propDecidable _) && @decide (i < 2 ^ 62) (Classical.propDecidable _)
def rng (lo : Int) (n : Nat) : List D := (List.range n).map fun (i : Nat) => .int (lo + (i : Int))
theorem rgOk_lo {i : Int} (h : rgOk i = true) : -(2 ^ 62) ≤ i := @of_decide_eq_true _ (Classical.propDecidable _) (Bool.and_eq_true_iff.mp h).1
theorem rgOk_hi {i : Int} (h : rgOk i = true) : i < 2 ^ 62 := @of_decide_eq_true _ (Classical.propDecidable _) (Bool.and_eq_true_iff.mp h).2
noncomputable def rng1I (a : SE) : SI := fun ρ => (a ρ).bind fun x => match x.2 with
  | .int j => if rgOk j = true then .ok (.own, rng 0 j.toNat) else .st
  | _ => .st
noncomputable def rng2I (a b : SE) : SI := fun ρ => (a ρ).bind fun x => (b ρ).bind fun y => match x.2, y.2 with
  | .int i, .int j => if (rgOk i && rgOk j) = true then .ok (.own, rng i (j - i).toNat) else .st
  | _, _ => .st
theorem iter_rng {K : PySem.W.Frag} {lo : Int} {n : Nat} : IterOk K (Itr lo n) (rng lo n) [] := by
  refine ⟨fun H P i hi h => ?_, fun H P h => ?_, fun H P i x H' hi h y => ?_⟩
  · show i < n
    simpa [rng] using hi
  · show n ≤ _
    simp [rng]
  · obtain ⟨e, ex⟩ := y
    subst e; subst ex
    have hi : i < n := by simpa [rng] using hi
    exact ⟨Same.refl _, .int (lo + i), [], by simp [rng, hi], .int _, fun _ q => nomatch q⟩
theorem i_rng1 (hm : X.mg "range" = none) (ha : PE X a (tE X.K CA W sa)) (hg : Gl X "range" := by rfl) (hs : starEach [a] X.env = [(false, eval a X.env)] := by rfl) : PI X tg (.Call (.Name "range" p) [a] [] pos) (tI X.K CA W (rng1I sa)) := by
  refine piI (pi_range1 hg hm (pa_cons ha pa_nil hs) hs) fun σ H R ⟨A, H0, F, G, ρ, sr, h⟩ => ?_
  refine ⟨A, H0, F, G, ρ, sr, h.bind fun ⟨k, d⟩ h1 => ?_⟩
  intro v H1 f s1 r o
  cases d with
  | int j =>
    cases r
    obtain ⟨hz, h2⟩ := h1.ite
    exact ⟨j, rfl, rgOk_lo hz, rgOk_hi hz, h2 _ _ _ s1 iter_rng (fun p hp => nomatch hp)⟩
  | _ => exact h1.elim
theorem i_rng2 (hm : X.mg "range" = none) (ha : PE X a (tE X.K CA W sa)) (hb : PE X b (tE X.K CA W sb)) (hg : Gl X "range" := by rfl) (hs : starEach [a, b] X.env = [(false, eval a X.env), (false, eval b X.env)] := by rfl) (hs2 : starEach [b] X.env = [(false, eval b X.env)] := by rfl) :
    PI X tg (.Call (.Name "range" p) [a, b] [] pos) (tI X.K CA W (rng2I sa sb)) := by
  refine piI (pi_range2 hg hm (pa_cons ha (pa_cons hb pa_nil hs2) (by rw [hs, hs2])) hs hs2) fun σ H R ⟨A, H0, F, G, ρ, sr, h⟩ => ?_
  refine ⟨A, H0, F, G, ρ, sr, h.bind fun ⟨k, d⟩ h1 => ?_⟩
  intro v H1 f s1 r o
  refine ⟨A, H0, F, G, ρ, sr.same s1, (h1.later s1).bind fun ⟨k2, d2⟩ h2 => ?_⟩
  intro v2 H2 f2 s2 r2 o2
  cases d with
  | int i =>
    cases d2 with
    | int j =>
      cases r; cases r2
      obtain ⟨hz, h3⟩ := h2.ite
      have hz' := Bool.and_eq_true_iff.mp hz
      exact ⟨i, j, rfl, ⟨rgOk_lo hz'.1, rgOk_hi hz'.1, rgOk_lo hz'.2, rgOk_hi hz'.2⟩, h3 _ _ _ (s1.trans s2) iter_rng (fun p hp => nomatch hp)⟩
    | _ => exact h2.elim
  | _ => cases d2 <;> exact h2.elim
end
/-! ### comprehensions -/
def notOw (ρ : Env) (i : Nat) : Bool := decide (i < ρ.length) && match ρ[i]? with
  | some (.ow _) => false
  | _ => true
def wipE (ρ : Env) : List Nat → Env
  | [] => ρ
  | v :: vs => (wipE ρ vs).set v .no
def yesT : STs := fun _ => .ok true
def lcL (tg : Tgt) (ifs : STs) (elt : SE) (k : Kd) (ρ : Env) : List D → R (List KD)
  | [] => .ok []
  | d :: ds => match tg (.bor k.is) d ρ with
    | none => .st
    | some ρ1 => (ifs ρ1).bind fun b => if b = true then (elt ρ1).bind fun x => (lcL tg ifs elt k ρ ds).bind fun xs => .ok (x :: xs) else lcL tg ifs elt k ρ ds
def noex {α : Type} : R α → R α
  | .ok a => .ok a
  | _ => .st
def lcE (it : SI) (own : List Nat) (tg : Tgt) (ifs : STs) (elt : SE) : SE := fun ρ => (it ρ).bind fun kds =>
  if own.all (notOw ρ) = true ∧ kds.2.length ≤ LIM then (noex (lcL tg ifs elt kds.1 (wipE ρ own) kds.2)).bind fun xs => .ok (lk (jn xs) (xs.map (·.2)), .lst (xs.map (·.2))) else .st
section
variable {K : PySem.W.Frag} {A : Addr → Prop} {H0 H H1 : Hp} {F : Nat → List Addr} {G : List (D × V)} {ρ : Env} {σ : L2.St}
theorem Kd.join_assoc (a b c : Kd) : (a.join b).join c = a.join (b.join c) := by
  cases a <;> cases b <;> cases c <;> simp [Kd.join, Kd.is]
theorem jn_app : ∀ xs ys : List KD, jn (xs ++ ys) = (jn xs).join (jn ys)
  | [], ys => by
    show jn ys = Kd.join .own (jn ys)
    cases jn ys with
    | own => rfl
    | bor is => rfl
  | x :: xs, ys => by
    show x.1.join (jn (xs ++ ys)) = (x.1.join (jn xs)).join (jn ys)
    rw [jn_app xs ys, Kd.join_assoc]
theorem jn_one (x : KD) : jn [x] = x.1 ∨ ∃ is, x.1 = .bor is ∧ jn [x] = .bor (is ++ []) := by
  obtain ⟨k, d⟩ := x
  cases k with
  | own => exact .inl rfl
  | bor is => exact .inr ⟨is, rfl, rfl⟩
theorem jn_one' (x : KD) : jn [x] = x.1 := by
  rcases jn_one x with h | ⟨is, h1, h2⟩
  · exact h
  · rw [h2, h1, List.append_nil]
theorem Kd.join_is (a b : Kd) : (a.join b).is = a.is ++ b.is := by cases a <;> cases b <;> simp [Kd.join, Kd.is]
theorem jn_is : ∀ {xs : List KD} {x : KD}, x ∈ xs → ∀ j ∈ x.1.is, j ∈ (jn xs).is
  | y :: xs, x, h, j, hj => by
    show j ∈ (y.1.join (jn xs)).is
    rw [Kd.join_is]
    rcases List.mem_cons.mp h with e | h
    · subst e; exact List.mem_append_left _ hj
    · exact List.mem_append_right _ (jn_is h j hj)
theorem SR.setNo (sr : SR K A H0 F G ρ σ H) (i : Nat) (h : notOw ρ i = true) : SR K A H0 F G (ρ.set i .no) (σ.set i none) H := by
  have hl : i < ρ.length := of_decide_eq_true (Bool.and_eq_true_iff.mp h).1
  refine ⟨by rw [List.length_set, List.length_set]; exact sr.len, sr.fr, sr.own, sr.dis, fun j d e => ?_, fun j is d e => ?_, sr.gho, fun j hj hn => ?_, sr.fin⟩
  · by_cases h : i = j
    · subst h; rw [List.getElem?_set_self hl] at e; cases e
    · rw [List.getElem?_set_ne h] at e; rw [List.getElem?_set_ne h]; exact sr.slo j d e
  · by_cases h : i = j
    · subst h; rw [List.getElem?_set_self hl] at e; cases e
    · rw [List.getElem?_set_ne h] at e; rw [List.getElem?_set_ne h]; exact sr.slb j is d e
  · rw [List.length_set] at hj
    obtain ⟨d, e⟩ := sr.emp j hj hn
    by_cases h' : i = j
    · subst h'
      have := (Bool.and_eq_true_iff.mp h).2
      rw [e] at this
      cases this
    · exact ⟨d, by rw [List.getElem?_set_ne h']; exact e⟩
theorem notOw_set {ρ : Env} {i j : Nat} (h : notOw ρ i = true) : notOw (ρ.set j .no) i = true := by
  obtain ⟨h1, h2⟩ := Bool.and_eq_true_iff.mp h
  refine Bool.and_eq_true_iff.mpr ⟨by rw [List.length_set]; exact h1, ?_⟩
  by_cases e : j = i
  · subst e; rw [List.getElem?_set_self (of_decide_eq_true h1)]
  · rw [List.getElem?_set_ne e]; exact h2
theorem notOw_wip {ρ : Env} {i : Nat} (h : notOw ρ i = true) : ∀ vs : List Nat, notOw (wipE ρ vs) i = true
  | [] => h
  | v :: vs => notOw_set (notOw_wip h vs)
theorem SR.wip (sr : SR K A H0 F G ρ σ H) : ∀ own : List Nat, own.all (notOw ρ) = true → SR K A H0 F G (wipE ρ own) (wipe σ own) H
  | [], _ => sr
  | v :: vs, h => by
    rw [List.all_cons, Bool.and_eq_true] at h
    exact (sr.wip vs h.2).setNo v (notOw_wip h.1 vs)
theorem wipE_len (ρ : Env) : ∀ vs : List Nat, (wipE ρ vs).length = ρ.length
  | [] => rfl
  | v :: vs => by unfold wipE; rw [List.length_set, wipE_len ρ vs]
theorem wipE_in {ρ : Env} {i : Nat} : ∀ {vs : List Nat}, i ∈ vs → i < ρ.length → (wipE ρ vs)[i]? = some .no
  | v :: vs, h, hl => by
    unfold wipE
    by_cases e : v = i
    · subst e; rw [List.getElem?_set_self (by rw [wipE_len]; exact hl)]
    · rw [List.getElem?_set_ne e]
      rcases List.mem_cons.mp h with q | q
      · exact absurd q.symm e
      · exact wipE_in q hl
theorem wipe_in {σ : L2.St} {i : Nat} : ∀ {vs : List Nat}, i ∈ vs → i < σ.length → (wipe σ vs)[i]? = some none
  | v :: vs, h, hl => by
    unfold wipe
    by_cases e : v = i
    · subst e; rw [List.getElem?_set_self (by rw [wipe_length]; exact hl)]
    · rw [List.getElem?_set_ne e]
      rcases List.mem_cons.mp h with q | q
      · exact absurd q.symm e
      · exact wipe_in q hl
theorem wipe_eq {σ σ' : L2.St} {vs : List Nat} (hl : σ'.length = σ.length) (h : ∀ j, j ∉ vs → σ'[j]? = (wipe σ vs)[j]?) : wipe σ' vs = wipe σ vs := by
  refine List.ext_getElem? fun j => ?_
  by_cases hj : j ∈ vs
  · by_cases hjl : j < σ.length
    · rw [wipe_in hj hjl, wipe_in hj (by rw [hl]; exact hjl)]
    · rw [List.getElem?_eq_none (by rw [wipe_length]; omega), List.getElem?_eq_none (by rw [wipe_length]; omega)]
  · rw [wipe_out hj, h j hj]
/-- a hidden owner: beyond all slots -/
theorem SR.hid {L : Nat} {Dn : Addr} {xs : List V} (sr : SR K A H0 F G ρ σ H) (hD : H Dn = none) (hL : ρ.length ≤ L) (hF : F L = []) : SR K A H0 (updF F L [Dn]) G ρ σ (upd H Dn (.lst xs)) := by
  have s := same_upd (o := .lst xs) hD
  have sr1 := sr.same s
  have hn : ∀ b ∈ [Dn], H b = none := fun b hb => by rw [List.mem_singleton.mp hb]; exact hD
  have ne : ∀ {i : Nat} {x : Sl}, ρ[i]? = some x → i ≠ L := fun {i x} e => by
    have := (List.getElem?_eq_some_iff.mp e).1
    omega
  refine ⟨sr.len, sr1.fr, fun j => ?_, fun j m a hj hm => ?_, fun i d e => ?_, fun i is d e => ?_, fun p hp => ?_, fun i hi hn' => ?_, fin_upd sr.fin⟩
  · by_cases e : j = L
    · subst e; rw [updF_same]
      refine ⟨List.nodup_cons.mpr ⟨by simp, List.nodup_nil⟩, fun a ha => ?_⟩
      rw [List.mem_singleton.mp ha]
      exact ⟨sr.fr.free hD, ⟨by rw [upd_same]; trivial⟩⟩
    · rw [updF_ne e]; exact sr1.own j
  · by_cases e : j = L
    · by_cases e' : m = L
      · rw [e, e']
      · rw [e, updF_same] at hj; rw [updF_ne e'] at hm
        exact absurd (hn a hj) ((sr.own m).2 a hm).2.ne
    · by_cases e' : m = L
      · rw [e', updF_same] at hm; rw [updF_ne e] at hj
        exact absurd (hn a hm) ((sr.own j).2 a hj).2.ne
      · rw [updF_ne e] at hj; rw [updF_ne e'] at hm; exact sr.dis j m a hj hm
  · rw [updF_ne (ne e)]; exact sr1.slo i d e
  · obtain ⟨v, f, h1, h2, h3⟩ := sr.slb i is d e
    exact ⟨v, f, h1, h2.same s, h3.upd sr hn h2.trk⟩
  · obtain ⟨f, h1, h2⟩ := sr.gho p hp
    exact ⟨f, h1.same s, fun a ha => (h2 a ha).upd sr hn (h1.trk a ha)⟩
  · rw [updF_ne (by omega)] at hn'; exact sr.emp i hi hn'
/-- it is written -/
theorem SR.mutH {L : Nat} {Dn : Addr} {xs ys : List V} (sr : SR K A H0 F G ρ σ H) (hD : H Dn = some (.lst xs)) (hF : Dn ∈ F L) (hL : ρ.length ≤ L) (hi : ∀ (i : Nat) is d, ρ[i]? = some (.bo is d) → L ∉ is) : SR K A H0 F G ρ σ (upd H Dn (.lst ys)) := by
  have nt : ∀ b o, H b = some o → IsT o → (upd H Dn (.lst ys)) b = some o := fun b o e t => by
    by_cases h : b = Dn
    · subst h; rw [hD] at e; cases e; exact t.elim
    · rw [upd_ne h]; exact e
  have kp : ∀ {f : List Addr}, Dn ∉ f → ∀ a ∈ f, ∀ o, H a = some o → (upd H Dn (.lst ys)) a = some o := fun {f} hf a ha o e => by
    have hne : a ≠ Dn := fun z => hf (by rw [← z]; exact ha)
    rw [upd_ne hne]; exact e
  have shn : ∀ {a : Addr}, Sh A H0 F a → a ≠ Dn := fun {a} h z => h.2 L (z ▸ hF)
  refine ⟨sr.len, fun b o e => ?_, fun j => ⟨(sr.own j).1, fun a ha => ⟨((sr.own j).2 a ha).1, ?_⟩⟩, sr.dis, fun i d e => ?_, fun i is d e => ?_, fun p hp => ?_, sr.emp, sr.fin⟩
  · have hb : b ≠ Dn := fun z => by subst z; rw [((sr.own L).2 b hF).1] at e; cases e
    rw [upd_ne hb]; exact sr.fr b o e
  · by_cases h : a = Dn
    · subst h; exact ⟨by rw [upd_same]; trivial⟩
    · rw [upd_ne h]; exact ((sr.own j).2 a ha).2
  · obtain ⟨v, h1, h2⟩ := sr.slo i d e
    have hil := (List.getElem?_eq_some_iff.mp e).1
    exact ⟨v, h1, h2.frame nt (kp fun z => absurd (sr.dis i L Dn z hF) (by omega))⟩
  · obtain ⟨v, f, h1, h2, h3⟩ := sr.slb i is d e
    refine ⟨v, f, h1, h2.frame nt (kp fun z => ?_), h3⟩
    rcases h3 Dn z with ⟨j, hj, q⟩ | q
    · exact hi i is d e ((sr.dis j L Dn q hF) ▸ hj)
    · exact shn q rfl
  · obtain ⟨f, h1, h2⟩ := sr.gho p hp
    exact ⟨f, h1.frame nt (kp fun z => shn (h2 Dn z) rfl), h2⟩
end
theorem lk_not {k : Kd} {ds : List D} (h : ¬ noLs ds = true) : lk k ds = k := if_neg h
theorem slotsMax (ρ : Env) : ∃ L, ∀ (i : Nat) is d, ρ[i]? = some (.bo is d) → ∀ j ∈ is, j < L := by
  induction ρ with
  | nil => exact ⟨0, fun i is d e => by simp at e⟩
  | cons s ρ ih =>
    obtain ⟨L, h⟩ := ih
    have m : ∀ is : List Nat, ∃ M, ∀ j ∈ is, j < M := fun is => by
      induction is with
      | nil => exact ⟨0, fun j hj => nomatch hj⟩
      | cons a is ih =>
        obtain ⟨M, h⟩ := ih
        refine ⟨max M (a + 1), fun j hj => ?_⟩
        rcases List.mem_cons.mp hj with e | hj
        · subst e; omega
        · have := h j hj; omega
    cases s with
    | bo is d =>
      obtain ⟨M, hM⟩ := m is
      refine ⟨max L M, fun i is' d' e j hj => ?_⟩
      cases i with
      | zero => simp at e; obtain ⟨e1, _⟩ := e; subst e1; have := hM j hj; omega
      | succ i => have := h i is' d' (by simpa using e) j hj; omega
    | no => exact ⟨L, fun i is d e => by cases i with | zero => simp at e | succ i => exact h i is d (by simpa using e)⟩
    | ow d0 => exact ⟨L, fun i is d e => by cases i with | zero => simp at e | succ i => exact h i is d (by simpa using e)⟩
theorem natsMax (is : List Nat) : ∃ M, ∀ j ∈ is, j < M := by
  induction is with
  | nil => exact ⟨0, fun j hj => nomatch hj⟩
  | cons a is ih =>
    obtain ⟨M, h⟩ := ih
    refine ⟨max M (a + 1), fun j hj => ?_⟩
    rcases List.mem_cons.mp hj with e | hj
    · subst e; omega
    · have := h j hj; omega
end Cz
set_option maxHeartbeats 1000000
/-! Cz6b: list comprehensions. -/
namespace Cz
open PySem PySem.Spec PyProof.Rows L2
abbrev W0 : WX := fun _ _ _ _ => False
theorem ptsI {X : Cx} {ifs : List Expr} {t t' : TT} (h : PTs X ifs t) (k : ∀ σ H Q, t' σ H Q → t σ H Q) : PTs X ifs t' := ⟨fun pins s σ H Q I q => h.run pins s σ H Q I (k σ H Q q)⟩
theorem ts_nil {X : Cx} {CA : String → Addr} {W : WX} : PTs X [] (tT X.K CA W yesT) := ptsI pts_nil fun σ H Q ⟨A, H0, F, G, ρ, sr, h⟩ => h H (Same.refl H)
theorem ts_one {X : Cx} {CA : String → Addr} {W : WX} {c : Expr} {t : STs} (h : PT X c (tT X.K CA W t)) : PTs X [c] (tT X.K CA W t) := pts_one h
section
variable {K : PySem.W.Frag} {A : Addr → Prop} {H0 H : Hp} {F : Nat → List Addr} {G : List (D × V)} {ρ : Env} {σ : L2.St} {CA : String → Addr} {Q : VK}
/-- the loop of a comprehension -/
theorem lc_loop {J : It} {H1 : Hp} {gh : List (D × V)} {k : Kd} {ds : List D} {own sl : List Nat} {tg : Tgt} {ifs : STs} {elt : SE} {total : List KD} {Dn : Addr} (sr : SR K A H0 F G ρ σ H) (s1 : Same H H1) (it : IterOk K J ds gh)
    (gk : Gh K H1 (fun a => (∃ j ∈ k.is, a ∈ F j) ∨ Sh A H0 F a) gh) (hown : own.all (notOw ρ) = true) (hlen : ds.length ≤ LIM) (hsl : ∀ j ∈ sl, j ∈ own) (ht : lcL tg ifs elt k (wipE ρ own) ds = .ok total)
    (hq : Cont K A H0 F H (lk (jn total) (total.map (·.2)), .lst (total.map (·.2))) Q) (nD : H1 Dn = none) :
    ∃ W : Nat → Nat → Hp → Prop, (∃ m, W 0 m (upd H1 Dn (.lst []))) ∧ ∀ i m H, W i m H →
      (J.stop i H ∧ Q (.ref Dn) H) ∨ (J.go i H ∧ ∃ Nx : Hp → Prop, (∀ H', Nx H' → ∃ m', m' < m ∧ W (i + 1) m' H') ∧ ∀ x H', J.yld i H x H' → tG K sl tg x (wipe σ own) H' fun σ2 H2 => wipe σ2 own = wipe σ own ∧ tT K CA W0 ifs σ2 H2 fun b H3 =>
        if b = true then tE K CA W0 elt σ2 H3 fun y H4 => ∃ acc, H4 Dn = some (.lst acc) ∧ acc.length < sizeLine ∧ Nx (upd H4 Dn (.lst (acc ++ [y]))) else Nx H3) := by
  -- a hidden owner
  obtain ⟨L0, hL0⟩ := sr.fin
  obtain ⟨L1, hL1⟩ := slotsMax (wipE ρ own)
  obtain ⟨L2, hL2⟩ := natsMax (jn total).is
  obtain ⟨L3, hL3⟩ := natsMax k.is
  obtain ⟨L, hLe⟩ : ∃ L, L = max (max L0 L1) (max L2 (max L3 ρ.length)) := ⟨_, rfl⟩
  have hFL : F L = [] := hL0 L (by omega)
  have hLr : ρ.length ≤ L := by omega
  have hLt : L ∉ (jn total).is := fun z => by have := hL2 L z; omega
  have hLk : L ∉ k.is := fun z => by have := hL3 L z; omega
  have hLs : ∀ (i : Nat) is d, (wipE ρ own)[i]? = some (.bo is d) → L ∉ is := fun i is d e z => by have := hL1 i is d e L z; omega
  have srw := (sr.same s1).wip own hown
  have hLw : (wipE ρ own).length ≤ L := by rw [wipE_len]; exact hLr
  have sD := same_upd (o := .lst []) nD
  have srD : SR K A H0 (updF F L [Dn]) G (wipE ρ own) (wipe σ own) (upd H1 Dn (.lst [])) := srw.hid nD hLw hFL
  have hDn : ∀ b ∈ [Dn], H1 b = none := fun b hb => by rw [List.mem_singleton.mp hb]; exact nD
  have inD : Dn ∈ updF F L [Dn] L := by rw [updF_same]; simp
  -- nodes that are known in F and in the widened F
  have up : ∀ {is : List Nat} {g : List Addr}, (∀ a ∈ g, H1 a ≠ none) → BOk A H0 F is g → BOk A H0 (updF F L [Dn]) is g := fun {is g} h b => b.upd srw hDn h
  have down : ∀ {is : List Nat} {g : List Addr}, L ∉ is → BOk A H0 (updF F L [Dn]) is g → BOk A H0 F is g := fun {is g} h b a ha => by
    rcases b a ha with ⟨j, hj, q⟩ | q
    · have hjL : j ≠ L := fun z => h (z ▸ hj)
      rw [updF_ne hjL] at q
      exact .inl ⟨j, hj, q⟩
    · refine .inr ⟨q.1, fun j hj => q.2 j ?_⟩
      by_cases e : j = L
      · subst e; rw [hFL] at hj; cases hj
      · rw [updF_ne e]; exact hj
  have notD : ∀ {kk : Kd} {g : List Addr} {Ha Hb : Hp}, (∀ j ∈ kk.is, j ∈ (jn total).is) → Ha Dn ≠ none → KOk A H0 (updF F L [Dn]) Ha Hb kk g → Dn ∉ g := fun {kk g Ha Hb} hk hD o z => by
    cases kk with
    | own => exact hD (o.2 Dn z).1
    | bor is =>
      rcases o Dn z with ⟨j, hj, q⟩ | q
      · have : j = L := srD.dis j L Dn q inD
        subst this
        exact hLt (hk j hj)
      · exact q.2 L inD
  have ownF : ∀ j ∈ own, F j = [] := fun j hj => by
    have h1 := List.all_eq_true.mp hown j hj
    have hl : j < ρ.length := of_decide_eq_true (Bool.and_eq_true_iff.mp h1).1
    cases hF : F j with
    | nil => rfl
    | cons a as =>
      obtain ⟨d, e⟩ := sr.emp j hl (by rw [hF]; exact fun z => nomatch z)
      have h2 := (Bool.and_eq_true_iff.mp h1).2
      rw [e] at h2
      cases h2
  have ownL : ∀ j ∈ own, j ≠ L := fun j hj z => by
    have h1 := List.all_eq_true.mp hown j hj
    have hl : j < ρ.length := of_decide_eq_true (Bool.and_eq_true_iff.mp h1).1
    omega
  have w : Walk J ds.length (fun H2 => Gh K H2 (fun a => ((∃ j ∈ k.is, a ∈ F j) ∨ Sh A H0 F a) ∧ H1 a ≠ none) gh) (fun i H2 x H' => Same H2 H' ∧ ∃ d f, ds[i]? = some d ∧ Rep K H' d x f ∧ ∀ a ∈ f, ((∃ j ∈ k.is, a ∈ F j) ∨ Sh A H0 F a) ∧ H1 a ≠ none) :=
    ⟨fun i H2 hi g => it.go H2 _ i hi g, fun H2 g => it.stop H2 _ g, fun i H2 x H' hi g y => it.yld H2 _ i x H' hi g y⟩
  have gk' : Gh K H1 (fun a => ((∃ j ∈ k.is, a ∈ F j) ∨ Sh A H0 F a) ∧ H1 a ≠ none) gh := fun p hp => let ⟨f, h1, h2⟩ := gk p hp; ⟨f, h1, fun a ha => ⟨h2 a ha, h1.trk a ha⟩⟩
  refine lc_it w (fun i H2 => ∃ xs rest vs f, lcL tg ifs elt k (wipE ρ own) (ds.drop i) = .ok rest ∧ xs ++ rest = total ∧ H2 Dn = some (.lst vs) ∧ Reps K H2 (xs.map (·.2)) vs f ∧ Dn ∉ f ∧ KOk A H0 (updF F L [Dn]) (upd H1 Dn (.lst [])) H2 (jn xs) f ∧ Same H1 H2 ∧
      SR K A H0 (updF F L [Dn]) G (wipE ρ own) (wipe σ own) H2 ∧ vs.length ≤ i)
    ⟨[], total, [], [], ht, rfl, upd_same, .nil, by simp, KOk.nil _, sD, srD, Nat.le_refl _⟩ (fun i H2 _ ⟨xs, rest, vs, f, _, _, _, _, _, _, sm, _, _⟩ => gk'.same sm) ?_ ?_
  · rintro i x H2 H' hi ⟨xs, rest, vs, f, hl, hx, hD, hr, hDf, hk, sm, srI, hv⟩ ⟨sy, d, f0, hd, r0, b0⟩
    have hdrop : ds.drop i = d :: ds.drop (i + 1) := by
      rw [List.drop_eq_getElem_cons hi]
      congr 1
      rw [List.getElem?_eq_getElem hi] at hd
      exact Option.some.inj hd
    rw [hdrop] at hl
    have hl : (match tg (.bor k.is) d (wipE ρ own) with
      | none => .st
      | some ρ1 => (ifs ρ1).bind fun b => if b = true then (elt ρ1).bind fun x => (lcL tg ifs elt k (wipE ρ own) (ds.drop (i + 1))).bind fun xs => .ok (x :: xs) else lcL tg ifs elt k (wipE ρ own) (ds.drop (i + 1))) = R.ok rest := hl
    have b0' : BOk A H0 (updF F L [Dn]) k.is f0 := up (fun a ha => (b0 a ha).2) fun a ha => (b0 a ha).1
    refine ⟨A, H0, H', updF F L [Dn], G, wipE ρ own, .bor k.is, d, f0, srI.same sy, Same.refl _, r0, b0', ?_⟩
    cases h1 : tg (.bor k.is) d (wipE ρ own) with
    | none => rw [h1] at hl; cases hl
    | some ρ1 =>
      rw [h1] at hl
      intro σ' F' p
      have hF' : F' = updF F L [Dn] := by
        funext j
        by_cases hj : j ∈ sl
        · rw [p.bor rfl j hj, updF_ne (ownL j (hsl j hj)), ownF j (hsl j hj)]
        · exact (p.out j hj).2
      subst hF'
      refine ⟨wipe_eq (by rw [p.len, wipe_length]) (fun j hj => (p.out j fun z => hj (hsl j z)).1), A, H0, _, G, ρ1, p.sr, ?_⟩
      cases h2 : ifs ρ1 with
      | ex c => simp only [h2, R.bind] at hl; cases hl
      | st => simp only [h2, R.bind] at hl; cases hl
      | ok b =>
        simp only [h2, R.bind] at hl
        intro H3 s3
        have sm3 := (sm.trans sy).trans s3
        cases b with
        | false =>
          simp only [Bool.false_eq_true, if_false] at hl ⊢
          exact ⟨xs, rest, vs, f, hl, hx, s3 _ _ (sy _ _ hD), (hr.same sy).same s3, hDf, hk.wide (Same.refl _) (sy.trans s3), sm3, (srI.same sy).same s3, by omega⟩
        | true =>
          simp only [if_true] at hl ⊢
          refine ⟨A, H0, _, G, ρ1, p.sr.same s3, ?_⟩
          cases h3 : elt ρ1 with
          | ex c => simp only [h3] at hl; cases hl
          | st => simp only [h3] at hl; cases hl
          | ok y =>
            simp only [h3] at hl
            cases h4 : lcL tg ifs elt k (wipE ρ own) (ds.drop (i + 1)) with
            | ex c => simp only [h4] at hl; cases hl
            | st => simp only [h4] at hl; cases hl
            | ok rest' =>
              simp only [h4] at hl
              cases hl
              intro yv H4 f4 s4 r4 o4
              have hD3 : H3 Dn = some (.lst vs) := s3 _ _ (sy _ _ hD)
              have hD4 : H4 Dn = some (.lst vs) := s4 _ _ hD3
              have hyt : y ∈ total := by rw [← hx]; simp
              have n4 : Dn ∉ f4 := notD (fun j hj => jn_is hyt j hj) (by rw [hD3]; simp) o4
              have nt : ∀ b o, H4 b = some o → IsT o → (upd H4 Dn (.lst (vs ++ [yv]))) b = some o := fun b o e t => by
                by_cases h : b = Dn
                · subst h; rw [hD4] at e; cases e; exact t.elim
                · rw [upd_ne h]; exact e
              have kp : ∀ {f : List Addr}, Dn ∉ f → ∀ a ∈ f, ∀ o, H4 a = some o → (upd H4 Dn (.lst (vs ++ [yv]))) a = some o := fun {f} hf a ha o e => by
                have hne : a ≠ Dn := fun z => hf (by rw [← z]; exact ha)
                rw [upd_ne hne]; exact e
              have mu : ∀ {a : Addr}, Mu (H4 a) → Mu ((upd H4 Dn (.lst (vs ++ [yv]))) a) := fun {a} h => by
                by_cases e : a = Dn
                · subst e; exact ⟨by rw [upd_same]; trivial⟩
                · rw [upd_ne e]; exact h
              have hr4 := ((hr.same sy).same s3).same s4
              have sr4 := (((srI.same sy).same s3).same s4)
              have hk4 := hk.wide (Same.refl _) ((sy.trans s3).trans s4)
              have trD : ∀ {a : Addr}, H3 a = none → (upd H1 Dn (.lst [])) a = none := fun {a} h => by
                have hne : a ≠ Dn := fun z => by rw [z, hD3] at h; cases h
                rw [upd_ne hne]
                exact sm3.free h
              refine ⟨vs, hD4, by rw [← lim_eq]; omega, xs ++ [y], rest', vs ++ [yv], f ++ f4, rfl, by rw [List.append_assoc]; exact hx, upd_same, ?_, ?_, ?_, ?_, ?_, ?_⟩
              · rw [List.map_append]
                have one : Reps K (upd H4 Dn (.lst (vs ++ [yv]))) [y.2] [yv] f4 := by
                  have := Reps.cons (r4.frame nt (kp n4)) (Reps.nil (K := K) (H := upd H4 Dn (.lst (vs ++ [yv]))))
                  rw [List.append_nil] at this
                  exact this
                exact (hr4.frame nt (kp hDf)).app one
              · intro z
                rcases List.mem_append.mp z with z | z
                · exact hDf z
                · exact n4 z
              · rw [jn_app, jn_one']
                have bb : BOk A H0 (updF F L [Dn]) ((jn xs).is ++ y.1.is) (f ++ f4) := fun a ha => by
                  rcases List.mem_append.mp ha with ha | ha
                  · exact (hk.bok srD).mono (fun j hj => List.mem_append_left _ hj) (fun _ q => q) a ha
                  · exact (o4.bok ((srI.same sy).same s3)).mono (fun j hj => List.mem_append_right _ hj) (fun _ q => q) a ha
                cases hj : jn xs with
                | own =>
                  rw [hj] at hk4
                  cases hy : y.1 with
                  | own =>
                    rw [hy] at o4
                    refine ⟨List.nodup_append.mpr ⟨hk4.1, o4.1, fun a ha b hb e => ?_⟩, fun a ha => ?_⟩
                    · subst e
                      exact ((hr.same sy).same s3).trk a ha (o4.2 a hb).1
                    · rcases List.mem_append.mp ha with ha | ha
                      · exact ⟨(hk4.2 a ha).1, mu (hk4.2 a ha).2⟩
                      · exact ⟨trD (o4.2 a ha).1, mu (o4.2 a ha).2⟩
                  | bor js => rw [hj, hy] at bb; exact bb
                | bor js => rw [hj] at bb; exact bb
              · intro b o e
                have hb : b ≠ Dn := fun z => by subst z; rw [nD] at e; cases e
                rw [upd_ne hb]
                exact s4 _ _ (sm3 b o e)
              · exact sr4.mutH hD4 inD hLw hLs
              · rw [List.length_append]; simp; omega
  · rintro H2 ⟨xs, rest, vs, f, hl, hx, hD, hr, hDf, hk, sm, srI, hv⟩
    rw [List.drop_length] at hl
    cases hl
    rw [List.append_nil] at hx
    subst hx
    refine hq _ H2 (Dn :: f) (s1.trans sm) (.lst hD hr) ?_
    have nH : H Dn = none := s1.free nD
    unfold lk
    split
    · rename_i hz
      rw [Reps.noL hr hz]
      refine ⟨List.nodup_cons.mpr ⟨by simp, List.nodup_nil⟩, fun a ha => ?_⟩
      rw [List.mem_singleton.mp ha]
      exact ⟨nH, ⟨by rw [hD]; trivial⟩⟩
    · cases hj : jn xs with
      | own =>
        rw [hj] at hk
        refine ⟨List.nodup_cons.mpr ⟨hDf, hk.1⟩, fun a ha => ?_⟩
        rcases List.mem_cons.mp ha with e | ha
        · subst e; exact ⟨nH, ⟨by rw [hD]; trivial⟩⟩
        · refine ⟨s1.free (sD.free (hk.2 a ha).1), (hk.2 a ha).2⟩
      | bor js =>
        rw [hj] at hk
        have hLj : L ∉ js := by have := hLt; rw [hj] at this; exact this
        intro a ha
        rcases List.mem_cons.mp ha with e | ha
        · subst e
          exact .inr ⟨.inr (sr.fr.free nH), fun j hj' => ((sr.own j).2 a hj').2.ne nH⟩
        · exact down hLj hk a ha
end
section
variable {X : Cx} {CA : String → Addr} {W : WX}
theorem e_lc {elt tg iter : Expr} {ifs : List Expr} {scope : Scope} {pos : Pos} {si : SI} {t : Tgt} {st : STs} {se : SE} {sl : List Nat} (own : List (Str × Nat)) (hc : X.calm = true) (hN : X.N.Nodup) (hi : PI X tg iter (tI X.K CA W si)) (ok : BlkOk X.N X.env.scope scope own)
    (hg : ∀ (s : Shared) (H : Hp) (C : Addr) (cl : List (Str × Addr)) (fp : List Addr), PG (X.blk s H scope (compEnvC scope cl C X.env) fp) tg (tG X.K sl t)) (hsl : ∀ j ∈ sl, j ∈ own.map (·.2))
    (ht : ∀ (s : Shared) (H : Hp) (C : Addr) (cl : List (Str × Addr)) (fp : List Addr), PTs (X.blk s H scope (compEnvC scope cl C X.env) fp) ifs (tT X.K CA W0 st))
    (he : ∀ (s : Shared) (H : Hp) (C : Addr) (cl : List (Str × Addr)) (fp : List Addr), PE (X.blk s H scope (compEnvC scope cl C X.env) fp) elt (tE X.K CA W0 se)) (hs : ∀ x, foldedSetIterable iter X.env x = pure x := by intro _; rfl) :
    PE X (.ListComp elt [⟨tg, iter, ifs, 0⟩] scope pos) (tE X.K CA W (lcE si (own.map (·.2)) t st se)) := by
  refine peI (pe_lc hc hN hi ok hg ht he hs) fun σ H Q ⟨A, H0, F, G, ρ, sr, h⟩ => ?_
  refine ⟨A, H0, F, G, ρ, sr, h.bind fun ⟨k, ds⟩ h1 => ?_⟩
  intro J H1 gh s1 it gk Dn nD
  obtain ⟨⟨hown, hlen⟩, h2⟩ := h1.ite
  cases hl : lcL t st se k (wipE ρ (own.map (·.2))) ds with
  | st => simp only [hl, noex, R.bind] at h2; exact h2.elim
  | ex c => simp only [hl, noex, R.bind] at h2; exact h2.elim
  | ok total =>
    simp only [hl, noex, R.bind] at h2
    exact lc_loop sr s1 it gk hown hlen hsl hl h2 nD
/-- y = [..] on one line -/
theorem e_setlc_raw {i : Nat} {y : Str} {py : Pos} {elt tg iter : Expr} {ifs : List Expr} {scope : Scope} {pos spos : Pos} {si : SI} {t : Tgt} {st : STs} {se : SE} {sl : List Nat} (own : List (Str × Nat)) (hc : X.calm = true) (hN : X.N.Nodup) (hy : X.N[i]? = some y) (hyl : X.env.scope.names.lookup y = some .local)
    (hsw : swapsWith (.ListComp elt [⟨tg, iter, ifs, 0⟩] scope pos) (some (.Name y py)) spos.line X.env = pure true) (hi : PI X tg iter (tI X.K CA W si)) (ok : BlkOk X.N X.env.scope scope own)
    (hg : ∀ (s : Shared) (H : Hp) (C : Addr) (cl : List (Str × Addr)) (fp : List Addr), PG (X.blk s H scope (compEnvC scope cl C X.env) fp) tg (tG X.K sl t)) (hsl : ∀ j ∈ sl, j ∈ own.map (·.2))
    (ht : ∀ (s : Shared) (H : Hp) (C : Addr) (cl : List (Str × Addr)) (fp : List Addr), PTs (X.blk s H scope (compEnvC scope cl C X.env) fp) ifs (tT X.K CA W0 st))
    (he : ∀ (s : Shared) (H : Hp) (C : Addr) (cl : List (Str × Addr)) (fp : List Addr), PE (X.blk s H scope (compEnvC scope cl C X.env) fp) elt (tE X.K CA W0 se)) (hs : ∀ x, foldedSetIterable iter X.env x = pure x := by intro _; rfl) :
    PS X (.Assign [.Name y py] (.ListComp elt [⟨tg, iter, ifs, 0⟩] scope pos) spos) (tAsg (tE X.K CA W (lcE si (own.map (·.2)) t st se)) (gName i)) := by
  refine ⟨fun pins s σ H D I h => (ps_setLc hc hN hy hyl hsw hi ok hg ht he hs).run pins s σ H D I ?_⟩
  obtain ⟨A, H0, F, G, ρ, sr, h⟩ := h
  refine ⟨A, H0, F, G, ρ, sr, h.bind fun ⟨k, ds⟩ h1 => ?_⟩
  intro J H1 gh s1 it gk Dn nD
  obtain ⟨⟨hown, hlen⟩, h2⟩ := h1.ite
  cases hl : lcL t st se k (wipE ρ (own.map (·.2))) ds with
  | st => simp only [hl, noex, R.bind] at h2; exact h2.elim
  | ex c => simp only [hl, noex, R.bind] at h2; exact h2.elim
  | ok total =>
    simp only [hl, noex, R.bind] at h2
    exact lc_loop (Q := fun x H1 => gName i x σ H1 D.nx) sr s1 it gk hown hlen hsl hl h2 nD
end
end Cz
set_option maxHeartbeats 1000000
/-! Cz7: statements. -/
namespace Cz
open PySem PySem.Spec PyProof.Rows L2
def OutOk (K : PySem.W.Frag) (CA : String → Addr) (W : WX) (A : Addr → Prop) (H0 : Hp) (G : List (D × V)) (De : Ends) (o : Out) : Prop := match o with
  | .nx ρ => ∀ σ H F, SR K A H0 F G ρ σ H → De.nx σ H
  | .rt k d => ∀ v H f, Same H0 H → Rep K H d v f → RetK A H0 H k f → De.rt v H
  | .bk ρ => ∀ σ H F, SR K A H0 F G ρ σ H → De.bk σ H
  | .ct ρ => ∀ σ H F, SR K A H0 F G ρ σ H → De.ct σ H
  | .ex c ρ => ∀ σ H F, SR K A H0 F G ρ σ H → W (.ref (CA c)) none σ H
  | .st => False
def tS (K : PySem.W.Frag) (CA : String → Addr) (W : WX) (s : SS) : TS := fun De σ H => ∃ A H0 F G ρ, SR K A H0 F G ρ σ H ∧ OutOk K CA W A H0 G De (s ρ)
def R.out {α : Type} (r : R α) (ρ : Env) (f : α → Out) : Out := match r with
  | .ok a => f a
  | .ex c => .ex c ρ
  | .st => .st
@[simp] theorem R.out_ok {α : Type} (a : α) (ρ : Env) (f : α → Out) : (R.ok a).out ρ f = f a := rfl
@[simp] theorem R.out_ex {α : Type} (c : String) (ρ : Env) (f : α → Out) : (R.ex c : R α).out ρ f = .ex c ρ := rfl
@[simp] theorem R.out_st {α : Type} (ρ : Env) (f : α → Out) : (R.st : R α).out ρ f = .st := rfl
def nilS : SS := fun ρ => .nx ρ
def seqS (a b : SS) : SS := fun ρ => match a ρ with
  | .nx ρ' => b ρ'
  | o => o
def bkS : SS := fun ρ => .bk ρ
def ctS : SS := fun ρ => .ct ρ
def asgS (t : Tgt) (s : SE) : SS := fun ρ => (s ρ).out ρ fun x => match t x.1 x.2 ρ with
  | some ρ' => .nx ρ'
  | none => .st
def ifS (t : STs) (a b : SS) : SS := fun ρ => (t ρ).out ρ fun c => if c = true then a ρ else b ρ
def retS (s : SE) : SS := fun ρ => (s ρ).out ρ fun x => .rt x.1 x.2
def retV (i : Nat) : SS := fun ρ => match ρ[i]? with
  | some (.ow d) => .rt .own d
  | some (.bo is d) => .rt (.bor is) d
  | _ => .st
def retN : SS := fun _ => .rt .own .non
def raiS (c : String) : SS := fun ρ => .ex c ρ
def dropS (s : SE) : SS := fun ρ => (s ρ).out ρ fun _ => .nx ρ
/-- slots that borrow from slot i are forgotten -/
def inv (i : Nat) (ρ : Env) : Env := ρ.map fun s => match s with
  | .bo is d => if i ∈ is then .no else .bo is d
  | s => s
def frz1 (j : Nat) (ρ : Env) : Env := match ρ[j]? with
  | some (.ow d) => ρ.set j (.bo [] d)
  | _ => ρ
def frz : List Nat → Env → Env
  | [], ρ => ρ
  | j :: is, ρ => frz is (frz1 j ρ)
def loopS (tg : Tgt) (body : SS) : List D → Env → Out
  | [], ρ => .nx ρ
  | d :: ds, ρ => match tg (.bor []) d ρ with
    | none => .st
    | some ρ1 => match body ρ1 with
      | .nx ρ2 => loopS tg body ds ρ2
      | .ct ρ2 => loopS tg body ds ρ2
      | .bk ρ2 => .nx ρ2
      | o => o
def forS (it : SI) (tg : Tgt) (body : SS) : SS := fun ρ => (it ρ).out ρ fun kds => loopS tg body kds.2 (frz kds.1.is ρ)
section
variable {K : PySem.W.Frag} {A : Addr → Prop} {H0 H H1 : Hp} {F : Nat → List Addr} {G G' : List (D × V)} {ρ : Env} {σ : L2.St} {CA : String → Addr} {W : WX} {De : Ends}
theorem lift {α : Type} {r : R α} {f : α → Out} (h : OutOk K CA W A H0 G De (r.out ρ f)) (sr : SR K A H0 F G ρ σ H) : Post CA W σ H r fun a => OutOk K CA W A H0 G De (f a) := by
  cases r with
  | ok a => exact h
  | ex c => exact fun H' s => h σ H' F (sr.same s)
  | st => exact h.elim
theorem KOk.ret {k : Kd} {f : List Addr} (sr : SR K A H0 F G ρ σ H) (o : KOk A H0 F H H1 k f) : RetK A H0 H1 k f := by
  cases k with
  | own => exact ⟨o.1, fun a ha => ⟨sr.fr.free (o.2 a ha).1, (o.2 a ha).2⟩⟩
  | bor is =>
    intro a ha
    rcases o a ha with ⟨j, _, q⟩ | q
    · exact .inr ((sr.own j).2 a q).1
    · exact q.1
/-- the nodes of slot j become shared -/
theorem SR.drop {j : Nat} {ρ' : Env} (sr : SR K A H0 F G ρ σ H) (hl : ρ'.length = ρ.length) (ho : ∀ i, i ≠ j → ρ'[i]? = ρ[i]?) (hj : (ρ'[j]? = ρ[j]? ∧ ∀ d, ρ[j]? ≠ some (.ow d)) ∨ ∃ d, ρ[j]? = some (.ow d) ∧ ρ'[j]? = some (.bo [] d)) :
    SR K A H0 (updF F j []) G ρ' σ H := by
  have hn : ∀ b ∈ ([] : List Addr), H b = none := fun b hb => nomatch hb
  have ne : ∀ {i : Nat} {d}, ρ'[i]? = some (.ow d) → i ≠ j := fun {i d} e z => by
    subst z
    rcases hj with ⟨h1, h2⟩ | ⟨d', h1, h2⟩
    · exact h2 d (h1 ▸ e)
    · rw [h2] at e; cases e
  refine ⟨hl.trans sr.len, sr.fr, fun i => ?_, fun i m a hi hm => ?_, fun i d e => ?_, fun i is d e => ?_, fun p hp => ?_, fun i hi hn' => ?_, fin_upd sr.fin⟩
  · by_cases e : i = j
    · subst e; rw [updF_same]; exact ⟨List.nodup_nil, fun a ha => nomatch ha⟩
    · rw [updF_ne e]; exact sr.own i
  · by_cases e : i = j
    · rw [e, updF_same] at hi; cases hi
    · by_cases e' : m = j
      · rw [e', updF_same] at hm; cases hm
      · rw [updF_ne e] at hi; rw [updF_ne e'] at hm; exact sr.dis i m a hi hm
  · have hi := ne e
    rw [updF_ne hi]
    exact sr.slo i d (by rw [← ho i hi]; exact e)
  · by_cases hi : i = j
    · subst hi
      rcases hj with ⟨h1, h2⟩ | ⟨d', h1, h2⟩
      · obtain ⟨v, f, h3, h4, h5⟩ := sr.slb i is d (h1 ▸ e)
        exact ⟨v, f, h3, h4, h5.upd sr hn h4.trk⟩
      · rw [h2] at e
        cases e
        obtain ⟨v, h3, h4⟩ := sr.slo i d h1
        refine ⟨v, F i, h3, h4, fun a ha => .inr ⟨.inr ((sr.own i).2 a ha).1, fun m hm => ?_⟩⟩
        by_cases e : m = i
        · rw [e, updF_same] at hm; cases hm
        · rw [updF_ne e] at hm; exact e (sr.dis m i a hm ha)
    · obtain ⟨v, f, h3, h4, h5⟩ := sr.slb i is d (by rw [← ho i hi]; exact e)
      exact ⟨v, f, h3, h4, h5.upd sr hn h4.trk⟩
  · obtain ⟨f, h1, h2⟩ := sr.gho p hp
    exact ⟨f, h1, fun a ha => (h2 a ha).upd sr hn (h1.trk a ha)⟩
  · by_cases e : i = j
    · subst e; rw [updF_same] at hn'; exact absurd rfl hn'
    · rw [updF_ne e] at hn'
      obtain ⟨d, q⟩ := sr.emp i (by rw [← hl]; exact hi) hn'
      exact ⟨d, by rw [ho i e]; exact q⟩
theorem frz1_len (j : Nat) (ρ : Env) : (frz1 j ρ).length = ρ.length := by
  unfold frz1
  split
  · rw [List.length_set]
  · rfl
theorem SR.frz1 (sr : SR K A H0 F G ρ σ H) (j : Nat) : SR K A H0 (updF F j []) G (Cz.frz1 j ρ) σ H := by
  refine sr.drop (frz1_len j ρ) (fun i hi => ?_) ?_
  · unfold Cz.frz1
    split
    · rw [List.getElem?_set_ne (Ne.symm hi)]
    · rfl
  · unfold Cz.frz1
    split
    · rename_i d h
      refine .inr ⟨d, h, ?_⟩
      rw [List.getElem?_set_self (List.getElem?_eq_some_iff.mp h).1]
    · rename_i h
      exact .inl ⟨rfl, fun d e => h d e⟩
/-- .. of many slots; what was known of nodes that lie in these or are shared: they are shared -/
theorem SR.frz : ∀ (is : List Nat) {F : Nat → List Addr} {ρ : Env}, SR K A H0 F G ρ σ H → ∃ F', SR K A H0 F' G (Cz.frz is ρ) σ H ∧ (∀ a, H a ≠ none → Sh A H0 F a → Sh A H0 F' a) ∧ ∀ a, (∃ j ∈ is, a ∈ F j) → Sh A H0 F' a
  | [], F, ρ, sr => ⟨F, sr, fun _ _ h => h, fun a ⟨j, hj, _⟩ => nomatch hj⟩
  | j :: is, F, ρ, sr => by
    have hn : ∀ b ∈ ([] : List Addr), H b = none := fun b hb => nomatch hb
    obtain ⟨F', sr', h1, h2⟩ := SR.frz is (sr.frz1 j)
    refine ⟨F', sr', fun a ha h => h1 a ha (h.upd sr hn ha), fun a ⟨m, hm, q⟩ => ?_⟩
    have ha : H a ≠ none := ((sr.own m).2 a q).2.ne
    by_cases e : m = j
    · subst e
      refine h1 a ha ⟨.inr ((sr.own m).2 a q).1, fun n hn' => ?_⟩
      by_cases e : n = m
      · rw [e, updF_same] at hn'; cases hn'
      · rw [updF_ne e] at hn'; exact e (sr.dis n m a hn' q)
    · rcases List.mem_cons.mp hm with z | hm
      · exact absurd z e
      · exact h2 a ⟨m, hm, by rw [updF_ne e]; exact q⟩
theorem SR.gsub (sr : SR K A H0 F G ρ σ H) (h : ∀ p ∈ G', p ∈ G) : SR K A H0 F G' ρ σ H := { sr with gho := fun p hp => sr.gho p (h p hp) }
theorem SR.gadd (sr : SR K A H0 F G ρ σ H) (h : Gh K H (Sh A H0 F) G') : SR K A H0 F (G' ++ G) ρ σ H :=
  { sr with gho := fun p hp => (List.mem_append.mp hp).elim (fun q => h p q) fun q => sr.gho p q }
theorem OutOk.gsub {o : Out} (h : OutOk K CA W A H0 G De o) (hs : ∀ p ∈ G, p ∈ G') : OutOk K CA W A H0 G' De o := by
  cases o with
  | nx ρ => exact fun σ H F sr => h σ H F (sr.gsub hs)
  | rt k d => exact h
  | bk ρ => exact fun σ H F sr => h σ H F (sr.gsub hs)
  | ct ρ => exact fun σ H F sr => h σ H F (sr.gsub hs)
  | ex c ρ => exact fun σ H F sr => h σ H F (sr.gsub hs)
  | st => exact h
end
section
variable {X : Cx} {st : Stmt} {sts : List Stmt} {t t' : TS}
theorem psI (h : PS X st t) (k : ∀ D σ H, t' D σ H → t D σ H) : PS X st t' := ⟨fun pins s σ H D I q => h.run pins s σ H D I (k D σ H q)⟩
theorem pssI (h : PSs X sts t) (k : ∀ D σ H, t' D σ H → t D σ H) : PSs X sts t' := ⟨fun pins s σ H D I q => h.run pins s σ H D I (k D σ H q)⟩
end
section
variable {X : Cx} {CA : String → Addr} {W : WX} {pos pos' : Pos} {st : Stmt} {rest a b : List Stmt} {e c tg iter : Expr} {s u : SS} {se : SE} {t : STs} {tt : Tgt} {sl : List Nat} {si : SI}
theorem ss_nil : PSs X [] (tS X.K CA W nilS) := pssI pss_nil fun D σ H ⟨A, H0, F, G, ρ, sr, h⟩ => h σ H F sr
theorem ss_cons (h1 : PS X st (tS X.K CA W s)) (h2 : PSs X rest (tS X.K CA W u)) : PSs X (st :: rest) (tS X.K CA W (seqS s u)) := by
  refine pssI (pss_cons h1 h2) fun D σ H ⟨A, H0, F, G, ρ, sr, h⟩ => ?_
  refine ⟨A, H0, F, G, ρ, sr, ?_⟩
  have h : OutOk X.K CA W A H0 G D (match s ρ with | .nx ρ' => u ρ' | o => o) := h
  cases hs : s ρ with
  | nx ρ' => rw [hs] at h; exact fun σ' H' F' sr' => ⟨A, H0, F', G, ρ', sr', h⟩
  | rt k d => rw [hs] at h; exact h
  | bk ρ' => rw [hs] at h; exact h
  | ct ρ' => rw [hs] at h; exact h
  | ex c ρ' => rw [hs] at h; exact h
  | st => rw [hs] at h; exact h
theorem ss_one (h1 : PS X st (tS X.K CA W s)) : PSs X [st] (tS X.K CA W s) := pss_one h1
theorem s_pass : PS X (.Pass pos) (tS X.K CA W nilS) := psI ps_pass fun D σ H ⟨A, H0, F, G, ρ, sr, h⟩ => h σ H F sr
theorem s_break : PS X (.Break pos) (tS X.K CA W bkS) := psI ps_break fun D σ H ⟨A, H0, F, G, ρ, sr, h⟩ => h σ H F sr
theorem s_cont : PS X (.Continue pos) (tS X.K CA W ctS) := psI ps_continue fun D σ H ⟨A, H0, F, G, ρ, sr, h⟩ => h σ H F sr
theorem s_ret (he : PE X e (tE X.K CA W se)) : PS X (.Return (some e) pos) (tS X.K CA W (retS se)) := by
  refine psI (ps_ret he) fun D σ H ⟨A, H0, F, G, ρ, sr, h⟩ => ?_
  refine ⟨A, H0, F, G, ρ, sr, (lift h sr).imp fun ⟨k, d⟩ _ q v H' f s r o => q v H' f (sr.fr.trans s) r (o.ret sr)⟩
theorem s_retV (i : Nat) {x : Str} (hN : X.N[i]? = some x := by rfl) (hv : Vis X.env.scope x := by first | exact Or.inl rfl | exact Or.inr (Or.inl rfl) | exact Or.inr (Or.inr rfl)) (hd : (x == ("__debug__" : Str)) = false := by decide)
    (hcd : (x == ("__classdict__" : Str)) = false := by decide) : PS X (.Return (some (.Name x pos')) pos) (tS X.K CA W (retV i)) := by
  refine psI (ps_ret (pe_var hN hv hd hcd)) fun D σ H ⟨A, H0, F, G, ρ, sr, h⟩ => ?_
  unfold retV at h
  cases e : ρ[i]? with
  | none => rw [e] at h; exact h.elim
  | some sl =>
    rw [e] at h
    cases sl with
    | no => exact h.elim
    | ow d =>
      obtain ⟨v, hv, r⟩ := sr.slo i d e
      exact ⟨v, hv, h v H (F i) sr.fr r ⟨(sr.own i).1, (sr.own i).2⟩⟩
    | bo is d =>
      obtain ⟨v, f, hv, r, b⟩ := sr.slb i is d e
      exact ⟨v, hv, h v H f sr.fr r fun a ha => by
        rcases b a ha with ⟨j, _, q⟩ | q
        · exact .inr ((sr.own j).2 a q).1
        · exact q.1⟩
theorem s_retN : PS X (.Return none pos) (tS X.K CA W retN) := psI ps_retN fun D σ H ⟨A, H0, F, G, ρ, sr, h⟩ => h .non H [] sr.fr .non ⟨List.nodup_nil, fun a ha => nomatch ha⟩
theorem s_if (hc : PT X c (tT X.K CA W t)) (ha : PSs X a (tS X.K CA W s)) (hb : PSs X b (tS X.K CA W u)) : PS X (.If c a b pos) (tS X.K CA W (ifS t s u)) := by
  refine psI (ps_if hc ha hb) fun D σ H ⟨A, H0, F, G, ρ, sr, h⟩ => ?_
  refine ⟨A, H0, F, G, ρ, sr, (lift h sr).imp fun b _ q H' s' => ?_⟩
  cases b with
  | true => exact ⟨A, H0, F, G, ρ, sr.same s', q⟩
  | false => exact ⟨A, H0, F, G, ρ, sr.same s', q⟩
theorem s_drop (he : PE X e (tE X.K CA W se)) (hs : swapsWith e none pos.line X.env = pure false := by rfl) : PS X (.Expr e pos) (tS X.K CA W (dropS se)) := by
  refine psI (ps_expr he hs) fun D σ H ⟨A, H0, F, G, ρ, sr, h⟩ => ?_
  exact ⟨A, H0, F, G, ρ, sr, (lift h sr).imp fun ⟨k, d⟩ _ q v H' f s r o => q σ H' F (sr.same s)⟩
/-- target = value -/
theorem asg_ok {D : Ends} {σ : L2.St} {H : Hp} (h : tS X.K CA W (asgS tt se) D σ H) : tE X.K CA W se σ H fun x H1 => tG X.K sl tt x σ H1 D.nx := by
  obtain ⟨A, H0, F, G, ρ, sr, h⟩ := h
  refine ⟨A, H0, F, G, ρ, sr, (lift h sr).imp fun ⟨k, d⟩ _ q v H' f s r o => ⟨A, H0, H, F, G, ρ, k, d, f, sr, s, r, o, ?_⟩⟩
  cases ht : tt k d ρ with
  | none => simp only [ht] at q; exact q.elim
  | some ρ' => simp only [ht] at q; exact fun σ' F' p => q σ' H' F' p.sr
theorem s_asg (he : PE X e (tE X.K CA W se)) (hg : PG X tg (tG X.K sl tt)) (hs : swapsWithSole [tg] e pos.line X.env = pure false := by rfl) (hw : swappedStores [tg] e X.env = pure none := by rfl)
    (h1 : (assignEach [tg] X.env).map (·.2) = [assign tg X.env] := by rfl) : PS X (.Assign [tg] e pos) (tS X.K CA W (asgS tt se)) :=
  psI (ps_asg he hg hs hw h1) fun D σ H h => asg_ok h
theorem s_set (i : Nat) {x : Str} (hN : X.N.Nodup) (he : PE X e (tE X.K CA W se)) (hi : X.N[i]? = some x := by rfl) (hx : Loc X.env.scope x := by first | exact Or.inl rfl | exact Or.inr rfl) (hs : swapsWith e (some (.Name x pos')) pos.line X.env = pure false := by rfl)
    (hf : X.fn x = true ∨ X.env.scope.names.lookup x = some .local := by first | exact .inl rfl | exact .inr rfl | assumption) : PS X (.Assign [.Name x pos'] e pos) (tS X.K CA W (asgS (tgN i) se)) := by
  refine psI (ps_set hN hi hx he hs hf) fun D σ H h => ?_
  obtain ⟨A, H0, F, G, ρ, sr, h⟩ := h
  refine ⟨A, H0, F, G, ρ, sr, (lift h sr).imp fun ⟨k, d⟩ _ q v H' f s r o => ?_⟩
  obtain ⟨f', sr', _⟩ := sr.set s r o i
  exact q _ _ _ sr'
theorem s_setlc {i : Nat} {y : Str} {py : Pos} {elt tg iter : Expr} {ifs : List Expr} {scope : Scope} {pos spos : Pos} {si : SI} {t : Tgt} {st : STs} {se : SE} {sl : List Nat} (own : List (Str × Nat)) (hc : X.calm = true) (hN : X.N.Nodup) (hi : PI X tg iter (tI X.K CA W si)) (ok : BlkOk X.N X.env.scope scope own)
    (hg : ∀ (s : Shared) (H : Hp) (C : Addr) (cl : List (Str × Addr)) (fp : List Addr), PG (X.blk s H scope (compEnvC scope cl C X.env) fp) tg (tG X.K sl t)) (hsl : ∀ j ∈ sl, j ∈ own.map (·.2))
    (ht : ∀ (s : Shared) (H : Hp) (C : Addr) (cl : List (Str × Addr)) (fp : List Addr), PTs (X.blk s H scope (compEnvC scope cl C X.env) fp) ifs (tT X.K CA W0 st))
    (he : ∀ (s : Shared) (H : Hp) (C : Addr) (cl : List (Str × Addr)) (fp : List Addr), PE (X.blk s H scope (compEnvC scope cl C X.env) fp) elt (tE X.K CA W0 se))
    (hsw : swapsWith (.ListComp elt [⟨tg, iter, ifs, 0⟩] scope pos) (some (.Name y py)) spos.line X.env = pure true) (hy : X.N[i]? = some y := by rfl) (hyl : X.env.scope.names.lookup y = some .local := by rfl) (hs : ∀ x, foldedSetIterable iter X.env x = pure x := by intro _; rfl) :
    PS X (.Assign [.Name y py] (.ListComp elt [⟨tg, iter, ifs, 0⟩] scope pos) spos) (tS X.K CA W (asgS (tgN i) (lcE si (own.map (·.2)) t st se))) := by
  refine psI (e_setlc_raw (W := W) own hc hN hy hyl hsw hi ok hg hsl ht he hs) fun D σ H h => ?_
  obtain ⟨A, H0, F, G, ρ, sr, h⟩ := h
  refine ⟨A, H0, F, G, ρ, sr, (lift h sr).imp fun ⟨k, d⟩ _ q v H' f s r o => ?_⟩
  obtain ⟨f', sr', _⟩ := sr.set s r o i
  exact q _ _ _ sr'
theorem s_raise {x m : String} {j : Nat} {p p2 : Pos} {C : Addr} {bmB : List Value} {B newId initId : String} (hc : X.calm = true) (tk : Takes X W) (Fb : ExcBaseFacts B newId initId bmB) (q : PySem.W.excIn X.K (CA x) bmB newId = true) (gC : X.mg (Str.ofString x) = some (.ref (CA x))) (kC : PySem.W.keepIn X.K (.ref (CA x)) = true)
    (r : Raises X (.ref (CA x))) {ms : Str} (hg : Gl X (Str.ofString x) := by rfl) (hdb : (Str.ofString x == ("__debug__" : Str)) = false := by decide) : PS X (.Raise (some (.Call (.Name (Str.ofString x) p) [.Constant (.str ms) j p2] [] pos')) none pos) (tS X.K CA W (raiS x)) :=
  psI (ps_raise hc tk (pmk_own Fb q gC kC r hg hdb)) fun D σ H ⟨A, H0, F, G, ρ, sr, h⟩ => h σ H F sr
/-- for -/
theorem for_itC {J : It} {ds : List D} {gh : List (D × V)} {K : PySem.W.Frag} (it : IterOk K J ds gh) {g : TG} {tb : TS} {D : Ends} {σ : L2.St} {H : Hp} (Pv : Nat → L2.St → Hp → Prop) (h0 : Pv 0 σ H) (hG : ∀ i σ H, i ≤ ds.length → Pv i σ H → Gh K H (fun _ => True) gh)
    (hs : ∀ i x σ H H', i < ds.length → Pv i σ H → (∀ P, Gh K H P gh → Same H H' ∧ ∃ d f, ds[i]? = some d ∧ Rep K H' d x f ∧ ∀ a ∈ f, P a) → g x σ H' fun σ2 H2 => tb { D with nx := Pv (i + 1), ct := Pv (i + 1), bk := D.nx } σ2 H2) (hd : ∀ σ H, Pv ds.length σ H → D.nx σ H) :
    ∃ W : Nat → Nat → L2.St → Hp → Prop, (∃ m, W 0 m σ H) ∧ ∀ i m σ H, W i m σ H →
      (J.stop i H ∧ D.nx σ H) ∨ (J.go i H ∧ ∃ N : L2.St → Hp → Prop, (∀ σ' H', N σ' H' → ∃ m', m' < m ∧ W (i + 1) m' σ' H') ∧ ∀ x H', J.yld i H x H' → g x σ H' fun σ2 H2 => tb { D with nx := N, ct := N, bk := D.nx } σ2 H2) := by
  refine ⟨fun i m σ H => m = ds.length - i ∧ i ≤ ds.length ∧ Pv i σ H, ⟨ds.length, by simp, Nat.zero_le _, h0⟩, ?_⟩
  rintro i m σ H ⟨rfl, hi, p⟩
  have q := hG i σ H hi p
  by_cases hlt : i < ds.length
  · exact .inr ⟨it.go H _ i hlt q, Pv (i + 1), fun σ' H' p' => ⟨ds.length - (i + 1), by omega, rfl, hlt, p'⟩, fun x H' y => hs i x σ H H' hlt p fun P hP => it.yld H P i x H' hlt hP y⟩
  · have e : i = ds.length := by omega
    subst e
    exact .inl ⟨it.stop H _ q, hd σ H p⟩
theorem s_for {body : List Stmt} {sb : SS} (hp : PassesOwn (model X.prog X.w) X.A X.env X.xe) (hc : X.calm = true) (hi : PI X tg iter (tI X.K CA W si)) (hg : PG X tg (tG X.K sl tt)) (hb : PSs X body (tS X.K CA W sb))
    (hs : ∀ x, foldedSetIterable iter X.env x = pure x := by intro _; rfl) : PS X (.For tg iter body [] pos) (tS X.K CA W (forS si tt sb)) := by
  refine psI (ps_for hp hc hi hg hb hs) fun D σ H ⟨A, H0, F, G, ρ, sr, h⟩ => ?_
  refine ⟨A, H0, F, G, ρ, sr, (lift h sr).imp fun ⟨k, ds⟩ _ q J H1 gh s1 it gk => ?_⟩
  have sr1 := sr.same s1
  obtain ⟨F1, srf, t1, t2⟩ := SR.frz k.is sr1
  have gk1 : Gh X.K H1 (Sh A H0 F1) gh := fun p hp => let ⟨f, h1, h2⟩ := gk p hp; ⟨f, h1, fun a ha => (h2 a ha).elim (t2 a) (t1 a (h1.trk a ha))⟩
  refine for_itC it (fun i σ H => ∃ F ρ, SR X.K A H0 F (gh ++ G) ρ σ H ∧ OutOk X.K CA W A H0 G D (loopS tt sb (ds.drop i) ρ)) ⟨F1, _, srf.gadd gk1, q⟩ (fun i σ H _ ⟨F, ρ, sr, _⟩ p hp => let ⟨f, h1, h2⟩ := sr.gho p (List.mem_append_left _ hp); ⟨f, h1, fun _ _ => trivial⟩) ?_ ?_
  · rintro i x σ2 H2 H3 hi ⟨F2, ρ2, sr2, o2⟩ yl
    obtain ⟨sy, d, f, hd, r, hf⟩ := yl (Sh A H0 F2) fun p hp => sr2.gho p (List.mem_append_left _ hp)
    have hdrop : ds.drop i = d :: ds.drop (i + 1) := by
      rw [List.drop_eq_getElem_cons hi]
      congr 1
      rw [List.getElem?_eq_getElem hi] at hd
      exact Option.some.inj hd
    rw [hdrop] at o2
    refine ⟨A, H0, H3, F2, gh ++ G, ρ2, .bor [], d, f, sr2.same sy, Same.refl _, r, fun a ha => .inr (hf a ha), ?_⟩
    have o2 : OutOk X.K CA W A H0 G D (match tt (.bor []) d ρ2 with
      | none => .st
      | some ρ1 => match sb ρ1 with
        | .nx ρ2 => loopS tt sb (ds.drop (i + 1)) ρ2
        | .ct ρ2 => loopS tt sb (ds.drop (i + 1)) ρ2
        | .bk ρ2 => .nx ρ2
        | o => o) := o2
    cases h1 : tt (.bor []) d ρ2 with
    | none => rw [h1] at o2; exact o2.elim
    | some ρ3 =>
      rw [h1] at o2
      intro σ' F' p
      refine ⟨A, H0, F', gh ++ G, ρ3, p.sr, ?_⟩
      have sub : ∀ p ∈ G, p ∈ gh ++ G := fun p hp => List.mem_append_right _ hp
      cases h2 : sb ρ3 with
      | nx ρ4 => simp only [h2] at o2; exact fun σ4 H4 F4 sr4 => ⟨F4, ρ4, sr4, o2⟩
      | ct ρ4 => simp only [h2] at o2; exact fun σ4 H4 F4 sr4 => ⟨F4, ρ4, sr4, o2⟩
      | bk ρ4 => simp only [h2] at o2; exact fun σ4 H4 F4 sr4 => o2 σ4 H4 F4 (sr4.gsub sub)
      | rt k' d' => simp only [h2] at o2; exact o2
      | ex c ρ4 => simp only [h2] at o2; exact fun σ4 H4 F4 sr4 => o2 σ4 H4 F4 (sr4.gsub sub)
      | st => simp only [h2] at o2; exact o2.elim
  · rintro σ2 H2 ⟨F2, ρ2, sr2, o2⟩
    rw [List.drop_length] at o2
    exact o2 σ2 H2 F2 (sr2.gsub fun p hp => List.mem_append_right _ hp)
end
end Cz
set_option maxHeartbeats 1000000
/-! Cz8: what changes a slot's own object; defs. -/
namespace Cz
open PySem PySem.Spec PyProof.Rows L2
theorem inv_len (j : Nat) (ρ : Env) : (inv j ρ).length = ρ.length := by unfold inv; rw [List.length_map]
theorem inv_ow {j i : Nat} {ρ : Env} {d : D} : (inv j ρ)[i]? = some (.ow d) ↔ ρ[i]? = some (.ow d) := by
  unfold inv
  rw [List.getElem?_map]
  cases h : ρ[i]? with
  | none => simp
  | some s =>
    cases s with
    | no => simp
    | ow d' => simp
    | bo is d' =>
      by_cases hj : j ∈ is
      · simp [hj]
      · simp [hj]
theorem inv_bo {j i : Nat} {ρ : Env} {d : D} {is : List Nat} (h : (inv j ρ)[i]? = some (.bo is d)) : ρ[i]? = some (.bo is d) ∧ j ∉ is := by
  unfold inv at h
  rw [List.getElem?_map] at h
  cases e : ρ[i]? with
  | none => rw [e] at h; cases h
  | some s =>
    rw [e] at h
    cases s with
    | no => simp at h
    | ow d' => simp at h
    | bo is' d' =>
      by_cases hj : j ∈ is'
      · simp [hj] at h
      · simp [hj] at h
        obtain ⟨e1, e2⟩ := h
        subst e1; subst e2
        exact ⟨rfl, hj⟩
section
variable {K : PySem.W.Frag} {A : Addr → Prop} {H0 Hb H : Hp} {F : Nat → List Addr} {G : List (D × V)} {ρ : Env} {σ : L2.St}
/-- an object that slot j owns is written: the slot's data is d' from then on -/
theorem SR.mutS {j : Nat} {a : Addr} {o : HO} {d d' : D} {v : V} {f' : List Addr} (sr : SR K A H0 F G ρ σ Hb) (s : Same Hb H) (ha : a ∈ F j) (hm : L2.Mut (some o)) (hs : ρ[j]? = some (.ow d)) (hv : σ[j]? = some (some v))
    (r : Rep K (upd H a o) d' v f') (nf : f'.Nodup) (hf : ∀ b ∈ f', b ∈ F j ∨ Hb b = none) (hmu : ∀ b ∈ f', Mu ((upd H a o) b)) : SR K A H0 (updF F j f') G ((inv j ρ).set j (.ow d')) σ (upd H a o) := by
  have sr1 := sr.same s
  have mua := ((sr1.own j).2 a ha).2
  have hj : j < ρ.length := (List.getElem?_eq_some_iff.mp hs).1
  have nt : ∀ b ob, H b = some ob → IsT ob → (upd H a o) b = some ob := fun b ob e t => by
    by_cases h : b = a
    · subst h
      rw [e] at mua
      have := mua.m
      cases ob <;> first | exact t.elim | exact this.elim
    · rw [upd_ne h]; exact e
  have kp : ∀ {f : List Addr}, a ∉ f → ∀ b ∈ f, ∀ ob, H b = some ob → (upd H a o) b = some ob := fun {f} hf b hb ob e => by
    have hne : b ≠ a := fun z => hf (by rw [← z]; exact hb)
    rw [upd_ne hne]; exact e
  have mu : ∀ {b : Addr}, Mu (H b) → Mu ((upd H a o) b) := fun {b} h => by
    by_cases e : b = a
    · subst e; exact ⟨by rw [upd_same]; exact hm⟩
    · rw [upd_ne e]; exact h
  have sh : ∀ {b : Addr}, Hb b ≠ none → Sh A H0 F b → b ≠ a ∧ Sh A H0 (updF F j f') b := fun {b} hb h => by
    refine ⟨fun z => h.2 j (z ▸ ha), h.1, fun m hm' => ?_⟩
    by_cases e : m = j
    · subst e
      rw [updF_same] at hm'
      exact (hf b hm').elim (h.2 m) hb
    · rw [updF_ne e] at hm'; exact h.2 m hm'
  refine ⟨by rw [List.length_set, inv_len]; exact sr.len, fun b ob e => ?_, fun i => ?_, fun i m b hi hm' => ?_, fun i d2 e => ?_, fun i is d2 e => ?_, fun p hp => ?_, fun i hi hn => ?_, fin_upd sr.fin⟩
  · have hb : b ≠ a := fun z => by subst z; rw [((sr.own j).2 b ha).1] at e; cases e
    rw [upd_ne hb]; exact sr1.fr b ob e
  · by_cases e : i = j
    · subst e
      rw [updF_same]
      exact ⟨nf, fun b hb => ⟨(hf b hb).elim (fun q => ((sr.own i).2 b q).1) fun q => sr.fr.free q, hmu b hb⟩⟩
    · rw [updF_ne e]
      exact ⟨(sr1.own i).1, fun b hb => ⟨((sr1.own i).2 b hb).1, mu ((sr1.own i).2 b hb).2⟩⟩
  · by_cases e : i = j
    · by_cases e' : m = j
      · rw [e, e']
      · rw [e, updF_same] at hi; rw [updF_ne e'] at hm'
        rcases hf b hi with q | q
        · exact e.trans (sr.dis j m b q hm')
        · exact absurd q ((sr.own m).2 b hm').2.ne
    · by_cases e' : m = j
      · rw [e', updF_same] at hm'; rw [updF_ne e] at hi
        rcases hf b hm' with q | q
        · exact (sr.dis i j b hi q).trans e'.symm
        · exact absurd q ((sr.own i).2 b hi).2.ne
      · rw [updF_ne e] at hi; rw [updF_ne e'] at hm'; exact sr.dis i m b hi hm'
  · by_cases h : j = i
    · subst h
      rw [List.getElem?_set_self (by rw [inv_len]; exact hj)] at e
      cases e
      exact ⟨v, hv, by rw [updF_same]; exact r⟩
    · rw [List.getElem?_set_ne h] at e
      obtain ⟨v2, h1, h2⟩ := sr1.slo i d2 (inv_ow.mp e)
      rw [updF_ne (Ne.symm h)]
      exact ⟨v2, h1, h2.frame nt (kp fun z => h (sr.dis j i a ha z))⟩
  · by_cases h : j = i
    · subst h
      rw [List.getElem?_set_self (by rw [inv_len]; exact hj)] at e
      cases e
    · rw [List.getElem?_set_ne h] at e
      obtain ⟨e1, hji⟩ := inv_bo e
      obtain ⟨v2, g, h1, h2, h3⟩ := sr.slb i is d2 e1
      have key : ∀ b ∈ g, b ≠ a ∧ ((∃ m ∈ is, b ∈ updF F j f' m) ∨ Sh A H0 (updF F j f') b) := fun b hb => by
        rcases h3 b hb with ⟨m, hm', q⟩ | q
        · have hmj : m ≠ j := fun z => hji (z ▸ hm')
          exact ⟨fun z => hmj (sr.dis m j a (z ▸ q) ha), .inl ⟨m, hm', by rw [updF_ne hmj]; exact q⟩⟩
        · obtain ⟨q1, q2⟩ := sh (h2.trk b hb) q
          exact ⟨q1, .inr q2⟩
      exact ⟨v2, g, h1, (h2.same s).frame nt (kp fun z => (key a z).1 rfl), fun b hb => (key b hb).2⟩
  · obtain ⟨g, h1, h2⟩ := sr.gho p hp
    exact ⟨g, (h1.same s).frame nt (kp fun z => (sh (h1.trk a z) (h2 a z)).1 rfl), fun b hb => (sh (h1.trk b hb) (h2 b hb)).2⟩
  · rw [List.length_set, inv_len] at hi
    by_cases h : j = i
    · subst h; exact ⟨d', by rw [List.getElem?_set_self (by rw [inv_len]; exact hi)]⟩
    · rw [updF_ne (Ne.symm h)] at hn
      obtain ⟨d2, e⟩ := sr.emp i hi hn
      exact ⟨d2, by rw [List.getElem?_set_ne h]; exact inv_ow.mpr e⟩
/-- own, or without nodes -/
def okIn (k : Kd) (ds : List D) : Bool := match k with
  | .own => true
  | .bor _ => noLs ds
theorem okIn_ok {k : Kd} {ds : List D} {vs : List V} {f : List Addr} (h : okIn k ds = true) (r : Reps K H ds vs f) (o : KOk A H0 F Hb H k f) : f.Nodup ∧ ∀ a ∈ f, Hb a = none ∧ Mu (H a) := by
  cases k with
  | own => exact o
  | bor is => rw [Reps.noL r h]; exact ⟨List.nodup_nil, fun a ha => nomatch ha⟩
end
/-! ### x op= e of ints and texts -/
def augB : Operator → D → D → Option D
  | .Add, .int i, .int j => some (.int (i + j))
  | .Sub, .int i, .int j => some (.int (i - j))
  | .Mult, .int i, .int j => if mulOk i j = true then some (.int (i * j)) else none
  | .Add, .str i, .str j => if i.length + j.length ≤ LIM then some (.str (i ++ j)) else none
  | _, _, _ => none
def slD : Option Sl → Option D
  | some (.ow d) => some d
  | some (.bo _ d) => some d
  | _ => none
def augS (i : Nat) (op : Operator) (s : SE) : SS := fun ρ => match slD ρ[i]? with
  | some d0 => (s ρ).out ρ fun x => match augB op d0 x.2 with
    | some d => .nx (ρ.set i (mkS .own d))
    | none => .st
  | none => .st
def rAug : Operator → R2
  | .Add => fun x y H Q => rI0 (fun i j => .int (i + j)) x y H Q ∨ (∃ i j, x = .str i ∧ y = .str j ∧ i.length + j.length ≤ sizeLine ∧ Q (.str (i ++ j)) H)
  | .Sub => rI0 fun i j => .int (i - j)
  | .Mult => rI CMulX fun i j => .int (i * j)
  | _ => fun _ _ _ _ => False
theorem rAug_ok {X : Cx} (op : Operator) : OpR X (inplaceOp op) (rAug op) := by
  cases op with
  | Add => exact OpR.or iop_add iop_add_str
  | Sub => exact iop_sub
  | Mult => exact opI fun _ _ _ _ _ _ _ hc q => imul_int q hc.ok
  | _ => exact fun _ _ _ _ _ _ _ _ _ _ _ _ h => h.elim
theorem augB_ok {K : PySem.W.Frag} {H : Hp} {op : Operator} {d1 d2 d : D} {v1 v2 : V} {f1 f2 : List Addr} {Q : VK} (r1 : Rep K H d1 v1 f1) (r2 : Rep K H d2 v2 f2) (e : augB op d1 d2 = some d) (h : ∀ v, Rep K H d v [] → Q v H) : rAug op v1 v2 H Q := by
  cases op with
  | Add =>
    cases d1 with
    | int i => cases d2 with
      | int j => simp only [augB, Option.some.injEq] at e; subst e; cases r1; cases r2; exact .inl ⟨_, _, rfl, rfl, h _ (.int _)⟩
      | _ => simp [augB] at e
    | str i => cases d2 with
      | str j =>
        simp only [augB] at e
        split at e
        · rename_i hz; cases e; cases r1; cases r2; exact .inr ⟨_, _, rfl, rfl, by rw [← lim_eq]; exact hz, h _ (.str _)⟩
        · cases e
      | _ => simp [augB] at e
    | _ => cases d2 <;> simp [augB] at e
  | Sub =>
    cases d1 with
    | int i => cases d2 with
      | int j => simp only [augB, Option.some.injEq] at e; subst e; cases r1; cases r2; exact ⟨_, _, rfl, rfl, h _ (.int _)⟩
      | _ => simp [augB] at e
    | _ => cases d2 <;> simp [augB] at e
  | Mult =>
    cases d1 with
    | int i => cases d2 with
      | int j =>
        simp only [augB] at e
        split at e
        · rename_i hz; cases e; cases r1; cases r2; exact ⟨_, _, rfl, rfl, show i.natAbs.log2 + j.natAbs.log2 < 100000000 from of_decide_eq_true hz, h _ (.int _)⟩
        · cases e
      | _ => simp [augB] at e
    | _ => cases d2 <;> simp [augB] at e
  | _ => cases d1 <;> cases d2 <;> simp [augB] at e
section
variable {X : Cx} {CA : String → Addr} {W : WX} {pos pos' p1 p2 p3 : Pos} {e : Expr} {se : SE}
theorem s_aug (i : Nat) {x : Str} {op : Operator} (hN : X.N.Nodup) (he : PE X e (tE X.K CA W se)) (hi : X.N[i]? = some x := by rfl) (hx : Loc X.env.scope x := by first | exact Or.inl rfl | exact Or.inr rfl)
    (hf : X.fn x = true ∨ X.env.scope.names.lookup x = some .local := by first | exact .inl rfl | exact .inr rfl | assumption) : PS X (.AugAssign (.Name x pos') op e pos) (tS X.K CA W (augS i op se)) := by
  refine psI (ps_aug hN hi hx he (rAug_ok op) hf) fun D σ H ⟨A, H0, F, G, ρ, sr, h⟩ => ?_
  have slot : ∀ d0, slD ρ[i]? = some d0 → ∃ v f, σ[i]? = some (some v) ∧ Rep X.K H d0 v f := fun d0 hd => by
    cases e : ρ[i]? with
    | none => rw [e] at hd; cases hd
    | some sl =>
      rw [e] at hd
      cases sl with
      | no => cases hd
      | ow d => cases hd; obtain ⟨v, h1, h2⟩ := sr.slo i _ e; exact ⟨v, _, h1, h2⟩
      | bo is d => cases hd; obtain ⟨v, f, h1, h2, _⟩ := sr.slb i _ _ e; exact ⟨v, f, h1, h2⟩
  unfold augS at h
  cases hd : slD ρ[i]? with
  | none => rw [hd] at h; exact h.elim
  | some d0 =>
    rw [hd] at h
    obtain ⟨v, f, hv, r0⟩ := slot d0 hd
    refine ⟨v, hv, A, H0, F, G, ρ, sr, (lift h sr).imp fun ⟨k, d⟩ _ q y H1 f1 s1 r1 o1 => ?_⟩
    cases ha : augB op d0 d with
    | none => simp only [ha] at q; exact q.elim
    | some d' =>
      simp only [ha] at q
      refine augB_ok (r0.same s1) r1 ha fun z rz => ?_
      obtain ⟨f', sr', _⟩ := sr.set (k := .own) s1 rz ⟨List.nodup_nil, fun a ha => nomatch ha⟩ i
      exact q _ _ _ sr'
/-! ### x.append(e), x.extend(e) -/
def appS (i : Nat) (s : SE) : SS := fun ρ => match ρ[i]? with
  | some (.ow (.lst ds)) => (s ρ).out ρ fun x => if okIn x.1 [x.2] = true ∧ ds.length < LIM then .nx ((inv i ρ).set i (.ow (.lst (ds ++ [x.2])))) else .st
  | _ => .st
theorem s_app (i : Nat) {x : Str} (he : PE X e (tE X.K CA W se)) (hi : X.N[i]? = some x := by rfl) (hv : Vis X.env.scope x := by first | exact Or.inl rfl | exact Or.inr (Or.inl rfl) | exact Or.inr (Or.inr rfl)) (hd : (x == ("__debug__" : Str)) = false := by decide)
    (hcd : (x == ("__classdict__" : Str)) = false := by decide) (hst : starEach [e] X.env = [(false, eval e X.env)] := by rfl) (hs : swapsWith (.Call (.Attribute (.Name x p1) "append" p2) [e] [] p3) none pos.line X.env = pure false := by rfl)
    (hline : (p2.endLine == p3.line) = true := by rfl) :
    PS X (.Expr (.Call (.Attribute (.Name x p1) "append" p2) [e] [] p3) pos) (tS X.K CA W (appS i se)) := by
  refine psI (ps_expr (pe_bm PySem.F.plainAttrs_list PySem.F.slot_list_append PySem.F.type_list_append mt_append (pe_var hi hv hd hcd) (pa_cons he pa_nil hst) rfl (by rw [hst]; rfl) hline hst rfl) hs) fun D σ H ⟨A, H0, F, G, ρ, sr, h⟩ => ?_
  have h : OutOk X.K CA W A H0 G D (appS i se ρ) := h
  unfold appS at h
  split at h
  · rename_i ds hsl
    obtain ⟨v, hv, r0⟩ := sr.slo i _ hsl
    obtain ⟨Fi, hFi⟩ : ∃ f, F i = f := ⟨_, rfl⟩
    rw [hFi] at r0
    cases r0 with
    | @lst a vs _ f0 hl q0 =>
      refine ⟨_, hv, .inl ⟨rfl, _, .of hl⟩, ?_⟩
      refine ⟨A, H0, F, G, ρ, sr, (lift h sr).imp fun ⟨k, d⟩ _ q y H1 f1 s1 r1 o1 => ?_⟩
      by_cases hc : okIn k [d] = true ∧ ds.length < LIM
      · have q : OutOk X.K CA W A H0 G D (if okIn k [d] = true ∧ ds.length < LIM then .nx ((inv i ρ).set i (.ow (.lst (ds ++ [d])))) else .st) := q
        rw [if_pos hc] at q
        have hl1 := s1 _ _ hl
        have rs : Reps X.K H1 [d] [y] f1 := by
          have := Reps.cons r1 (Reps.nil (K := X.K) (H := H1))
          rw [List.append_nil] at this
          exact this
        obtain ⟨n1, m1⟩ := okIn_ok hc.1 rs o1
        have own := sr.own i
        rw [hFi] at own
        have haF : a ∈ F i := by rw [hFi]; exact List.mem_cons_self
        have trk0 : ∀ b ∈ a :: f0, H b ≠ none := fun b hb => (own.2 b hb).2.ne
        have nd := List.nodup_cons.mp own.1
        have ne1 : ∀ b ∈ f1, b ≠ a := fun b hb z => trk0 a List.mem_cons_self (z ▸ (m1 b hb).1)
        refine ⟨a, vs, y, rfl, rfl, hl1, by rw [← lim_eq, ← q0.length]; exact hc.2, ?_⟩
        have nt : ∀ b ob, H1 b = some ob → IsT ob → (upd H1 a (.lst (vs ++ [y]))) b = some ob := fun b ob e t => by
          by_cases h : b = a
          · subst h; rw [hl1] at e; cases e; exact t.elim
          · rw [upd_ne h]; exact e
        have kp : ∀ {f : List Addr}, (∀ b ∈ f, b ≠ a) → ∀ b ∈ f, ∀ ob, H1 b = some ob → (upd H1 a (.lst (vs ++ [y]))) b = some ob := fun {f} hf b hb ob e => by rw [upd_ne (hf b hb)]; exact e
        have r' : Rep X.K (upd H1 a (.lst (vs ++ [y]))) (.lst (ds ++ [d])) (.ref a) (a :: (f0 ++ f1)) :=
          .lst upd_same (((q0.same s1).frame nt (kp fun b hb z => nd.1 (z ▸ hb))).app (rs.frame nt (kp ne1)))
        refine q σ _ _ (sr.mutS s1 haF trivial hsl hv r' ?_ (fun b hb => ?_) fun b hb => ?_)
        · refine List.nodup_cons.mpr ⟨fun z => ?_, List.nodup_append.mpr ⟨nd.2, n1, fun b hb c hc' e => ?_⟩⟩
          · rcases List.mem_append.mp z with z | z
            · exact nd.1 z
            · exact ne1 a z rfl
          · subst e; exact trk0 b (List.mem_cons_of_mem _ hb) (m1 b hc').1
        · rw [hFi]
          rcases List.mem_cons.mp hb with e | hb
          · subst e; exact .inl List.mem_cons_self
          · rcases List.mem_append.mp hb with hb | hb
            · exact .inl (List.mem_cons_of_mem _ hb)
            · exact .inr (m1 b hb).1
        · by_cases e : b = a
          · subst e; exact ⟨by rw [upd_same]; trivial⟩
          · rw [upd_ne e]
            rcases List.mem_cons.mp hb with z | hb
            · exact absurd z e
            · rcases List.mem_append.mp hb with hb | hb
              · exact ((own.2 b (List.mem_cons_of_mem _ hb)).2).same s1
              · exact (m1 b hb).2
      · have q : OutOk X.K CA W A H0 G D (if okIn k [d] = true ∧ ds.length < LIM then .nx ((inv i ρ).set i (.ow (.lst (ds ++ [d])))) else .st) := q
        rw [if_neg hc] at q
        exact q.elim
  · exact h.elim
end
/-! ### defs -/
/-- what has no lists is nobody's -/
def nk (k : Kd) (d : D) : Kd := if noL d = true then .own else k
/-- a def's answer by its body: m names in all -/
def runF (m : Nat) (body : SS) (ds : List D) : R KD := match body (ds.map (Sl.bo []) ++ List.replicate (m - ds.length) .no) with
  | .rt k d => .ok (nk k d, d)
  | .nx _ => .ok (.own, .non)
  | .ex c _ => .ex c
  | _ => .st
/-- a def of n parameters, m names in all -/
def mkF (n m : Nat) (body : SS) : Fn := fun ds => if ds.length = n then runF m body ds else .st
section
variable {K : PySem.W.Frag}
theorem Reps.getI : ∀ {H : Hp} {ds : List D} {vs : List V} {f : List Addr} {i : Nat} {d : D}, Reps K H ds vs f → ds[i]? = some d → ∃ v g, vs[i]? = some v ∧ Rep K H d v g ∧ ∀ b ∈ g, b ∈ f := fun r e =>
  let ⟨v, g, h1, h2, h3, _⟩ := r.get e; ⟨v, g, h1, h2, h3⟩
theorem SR.init {A : Addr → Prop} {H : Hp} {ds : List D} {vs : List V} {f : List Addr} {N : List Str} (r : Reps K H ds vs f) (hA : ∀ a ∈ f, A a) (hN : ds.length ≤ N.length) :
    SR K A H (fun _ => []) [] (ds.map (Sl.bo []) ++ List.replicate (N.length - ds.length) Sl.no) (start N vs) H := by
  have no : ∀ (i : Nat) (x : Sl), (ds.map (Sl.bo []) ++ List.replicate (N.length - ds.length) Sl.no)[i]? = some x → x = .no ∨ ∃ d, ds[i]? = some d ∧ x = .bo [] d := fun i x e => by
    by_cases hi : i < ds.length
    · rw [List.getElem?_append_left (by simpa using hi), List.getElem?_map] at e
      cases hd : ds[i]? with
      | none => rw [hd] at e; cases e
      | some d => rw [hd] at e; cases e; exact .inr ⟨d, rfl, rfl⟩
    · rw [List.getElem?_append_right (by simpa using hi), List.getElem?_replicate] at e
      split at e
      · cases e; exact .inl rfl
      · cases e
  refine ⟨?_, Same.refl H, fun i => ⟨List.nodup_nil, (fun a ha => nomatch ha)⟩, (fun i j a hi => nomatch hi), fun i d e => ?_, fun i is d e => ?_, (fun p hp => nomatch hp), fun i _ hn => absurd rfl hn, ⟨0, fun _ _ => rfl⟩⟩
  · unfold L2.start
    rw [List.length_append, List.length_append, List.length_map, List.length_map, List.length_replicate, List.length_replicate, r.length]
  · rcases no i _ e with q | ⟨d', _, q⟩ <;> cases q
  · rcases no i _ e with q | ⟨d', hd, q⟩
    · cases q
    · cases q
      obtain ⟨v, g, h1, h2, h3⟩ := r.getI hd
      refine ⟨v, g, ?_, h2, fun a ha => .inr ⟨.inl (hA a (h3 a ha)), fun j hj => nomatch hj⟩⟩
      have hi : i < vs.length := (List.getElem?_eq_some_iff.mp h1).1
      unfold L2.start
      rw [List.getElem?_append_left (by simpa using hi), List.getElem?_map, h1]
      rfl
end
section
variable {P : Program} {w : World} {K : PySem.W.Frag} {mg : Str → Option Value} {base : Heap} {CA : String → Addr}
/-- THE RULE: a def answers as its body's evaluation tells -/
theorem fn_ok {fn : Fn} {x qual : Str} {st : Stmt} {f : Addr} {fd : FuncData} {N ps : List Str} {k : Nat} {body : SS} {dvs : List V} (Fu : FunD K x qual (defArgs st) (defBody st) (defScope st) dvs [] f fd) (S : FnScope N ps (defScope st))
    (hb : ∀ (cdv : Value) (A : Around) (outer : List PySem.Env) (s : Shared) (H : Hp) (E : XK), Room k (A.deeper (envOfC qual (defScope st) s.heap.objs.size f cdv)) →
      PSs (cxOf (L2.CX P w) P w K mg base N qual (defScope st) f cdv A outer s H E) (defBody st) (tS K CA (fun cls d _ H => E cls d H) body))
    (hx : ∀ ds, ds.length = ps.length → fn ds = runF N.length body ds)
    (hN : ps.length ≤ N.length) : FnOk P w K mg base (L2.CX P w) (k + 1) f fd ps (spF K CA fn ps.length) := by
  refine Fu.ok S (fun vs H Q E ⟨A, ds, g, h1, h2, _⟩ => by rw [← h2.length]; exact h1) fun cdv Ar outer s H vs Q E hr ⟨A, ds, g, h1, h2, h3, h4⟩ => ?_
  refine ⟨_, hb cdv Ar outer s H E hr, A, H, fun _ => [], [], _, SR.init h2 h3 (by rw [h1]; exact hN), ?_⟩
  rw [hx ds h1] at h4
  unfold runF at h4
  cases hbo : body (ds.map (Sl.bo []) ++ List.replicate (N.length - ds.length) .no) with
  | nx ρ =>
    simp only [hbo] at h4
    exact fun σ' H' F' sr => h4 .non H' [] sr.fr .non ⟨List.nodup_nil, fun a ha => nomatch ha⟩
  | rt k d =>
    simp only [hbo] at h4
    refine fun v H' f s r o => h4 v H' f s r ?_
    unfold nk
    split
    · rename_i hz; rw [Rep.noL r hz]; exact ⟨List.nodup_nil, fun a ha => nomatch ha⟩
    · exact o
  | bk ρ => simp only [hbo] at h4
  | ct ρ => simp only [hbo] at h4
  | ex c ρ => simp only [hbo] at h4; exact fun σ' H' F' sr => h4 H' sr.fr
  | st => simp only [hbo] at h4
end
end Cz
set_option maxHeartbeats 1000000
/-! Cz9: what a law's walk is made of. -/
namespace Cz
open PySem PySem.Spec PyProof.Rows L2
theorem hu65 {k : Nat} {A : Around} (hr : Room k A) : A.units + 65 < cLine := by have := hr.un; omega
theorem hpo {M : Model} {A : Around} {env : PySem.Env} : True := trivial
/-- an own error over ValueError -/
structure ExG (K : PySem.W.Frag) (mg : Str → Option Value) (CA : String → Addr) (x : String) : Prop where
  i : PySem.W.excIn K (CA x) [.type "ValueError", .type "Exception", .type "BaseException", .type "object"] "ValueError.__new__" = true
  g : mg (Str.ofString x) = some (.ref (CA x))
  k : PySem.W.keepIn K (.ref (CA x)) = true
  b : PySem.W.subIn K (.ref (CA x)) (.type "BaseException") = some true
  t : PySem.W.typeIn K (.ref (CA x)) = some (.type "type")
theorem ExG.r {X : Cx} {CA : String → Addr} {x : String} {mg : Str → Option Value} (e : ExG X.K mg CA x) : Raises X (.ref (CA x)) := raises_own e.b e.t
/-- classes by their names -/
def caOf (mg : Str → Option Value) (x : String) : Addr := match mg (Str.ofString x) with
  | some (.ref a) => a
  | _ => 0
theorem exG_of {K : PySem.W.Frag} {h : Heap} {mg : Str → Option Value} {C : Addr} {x : String} (X : K.In h) (G : h.Ns mainGlobals mg) (a : PySem.W.nsIn K mainGlobals (Str.ofString x) = some (some (.ref C))) (i : PySem.W.excIn K C [.type "ValueError", .type "Exception", .type "BaseException", .type "object"] "ValueError.__new__" = true)
    (k : PySem.W.keepIn K (.ref C) = true) (b : PySem.W.subIn K (.ref C) (.type "BaseException") = some true) (t : PySem.W.typeIn K (.ref C) = some (.type "type")) : ExG K mg (caOf mg) x := by
  have e : mg (Str.ofString x) = some (.ref C) := PySem.W.mg_of X G a
  have e2 : caOf mg x = C := by unfold caOf; rw [e]
  exact ⟨e2 ▸ i, by rw [e2]; exact e, e2 ▸ k, e2 ▸ b, e2 ▸ t⟩
section
variable {P : Program} {w : World} {K : PySem.W.Frag} {mg : Str → Option Value} {base : Heap} {CA : String → Addr}
theorem fn_g {k : Nat} {x : String} {n : Nat} {ps : List Str} {m : Nat} {body : SS} {f : Addr} {fd : FuncData} {dvs : List V} {ds : List Value} {dd : List D} (hm : mg (Str.ofString x) = some (.ref f)) (h : FnOk P w K mg base (L2.CX P w) k f fd ps (spF K CA (mkF n m body) ps.length))
    (kp : PySem.W.keepIn K (.ref f) = true) (b : Binds K fd ps ds) (v : Vals dvs ds) (r : ∀ H, Reps K H dd dvs []) (hn : n = ps.length) : FnG P w K mg base CA (mkF n m body) k x dd := by
  refine ⟨f, fd, ps, dvs, ds, hm, h, kp, b, v, r, fun as z => ?_⟩
  unfold mkF at z
  split at z
  · rw [← hn]; assumption
  · exact absurd rfl z
theorem mkF_of {n m : Nat} {body : SS} {ds : List D} (h : ds.length = n) : mkF n m body ds = runF m body ds := if_pos h
/-- a def as the top left it -/
theorem funD0 {x qual : Str} {st : Stmt} {f : Addr} {oc : Value} {od an : Option Addr} {osl : Array (Option Value)} {kV doc pm cdv ct : Value} (l : K.lookup f = some ⟨oc, od, .func (PySem.W.fnOf x qual (defArgs st) (defBody st) (defScope st) .none kV doc pm an cdv ct), osl⟩)
    (c : PySem.W.codeIn K cdv qual = true) (k : PySem.W.keepIn K (.ref f) = true) : FunD K x qual (defArgs st) (defBody st) (defScope st) [] [] f (PySem.W.fnOf x qual (defArgs st) (defBody st) (defScope st) .none kV doc pm an cdv ct) :=
  ⟨⟨oc, od, _, kV, doc, pm, an, cdv, ct, osl, rfl, l, c, .inl ⟨rfl, rfl⟩, .inl rfl⟩, k⟩
theorem funD1 {x qual : Str} {st : Stmt} {f T : Addr} {oc oc2 : Value} {od od2 an : Option Addr} {osl osl2 : Array (Option Value)} {kV doc pm cdv ct : Value} {dvs : List V} {its : List Value} {n : Nat} (l : K.lookup f = some ⟨oc, od, .func (PySem.W.fnOf x qual (defArgs st) (defBody st) (defScope st) (.ref T) kV doc pm an cdv ct), osl⟩)
    (c : PySem.W.codeIn K cdv qual = true) (k : PySem.W.keepIn K (.ref f) = true) (lT : K.lookup T = some ⟨oc2, od2, .seq its.toArray n, osl2⟩) (v : Vals dvs its) (hd : dvs ≠ []) :
    FunD K x qual (defArgs st) (defBody st) (defScope st) dvs [] f (PySem.W.fnOf x qual (defArgs st) (defBody st) (defScope st) (.ref T) kV doc pm an cdv ct) :=
  ⟨⟨oc, od, _, kV, doc, pm, an, cdv, ct, osl, rfl, l, c, .inr ⟨hd, T, _, its, n, rfl, lT, rfl, v⟩, .inl rfl⟩, k⟩
/-- the law's promise -/
def spLaw (K : PySem.W.Frag) : Sp := fun vs H Q _ => ∃ (a : Addr) (ns : List Int), vs = [.ref a] ∧ SqL K H a (ns.map V.int) ∧ ns.length ≤ 63 ∧ (∀ z ∈ ns, Builtin.Int.intBits z ≤ 1048576) ∧ ∀ H', Q (.bl true) H'
theorem law_sp {fn : Fn} (h : ∀ ns : List Int, ns.length ≤ 63 → (∀ z ∈ ns, Builtin.Int.intBits z ≤ 1048576) → fn [.scr (ns.map D.int)] = .ok (.own, .bl true)) (vs : List V) (H : Hp) (Q : VK) (E : XK) (q : spLaw K vs H Q E) : spF K CA fn 1 vs H Q E := by
  obtain ⟨a, ns, rfl, hS, hl, hb, q⟩ := q
  have fin : ∀ f, Rep K H (.scr (ns.map D.int)) (.ref a) f → spF K CA fn 1 [.ref a] H Q E := fun f r => by
    have r2 : Reps K H [D.scr (ns.map D.int)] [V.ref a] f := by
      have := Reps.cons r (Reps.nil (K := K) (H := H))
      rw [List.append_nil] at this
      exact this
    refine ⟨fun _ => True, _, f, rfl, r2, fun _ _ => trivial, ?_⟩
    rw [h ns hl hb]
    intro v H' g s rv o
    cases rv
    exact q H'
  rcases hS with (hS | ⟨o, hS⟩) | hS
  · exact fin _ (.scw hS (Reps.ints ns))
  · exact fin _ (.scr (.inr ⟨o, hS⟩) (Reps.ints ns))
  · exact fin _ (.scr (.inl fun H' => .inr hS) (Reps.ints ns))
end
end Cz
set_option maxHeartbeats 1000000
/-! Ev1: the evaluator by rewriting. -/
namespace Cz
open PySem PySem.Spec PyProof.Rows L2
section
variable {ρ : Env} {a b c : SE} {t u v : STs} {s s' : SS} {k k' : Kd} {d d' : D} {is : List Nat}
@[simp] theorem locE_ev (i : Nat) : locE i ρ = match ρ[i]? with | some (.ow d) => .ok (.bor [i], d) | some (.bo is d) => .ok (.bor is, d) | _ => .st := id rfl
@[simp] theorem conE_ev : conE d ρ = .ok (.own, d) := id rfl
@[simp] theorem binE_ev {op : Operator} : binE op a b ρ = (a ρ).bind fun x => (b ρ).bind fun y => R.of (opB op x y) := id rfl
@[simp] theorem cmpT_ev {op : CmpOp} : cmpT op a b ρ = (a ρ).bind fun x => (b ρ).bind fun y => R.of (cmpB op x.2 y.2) := id rfl
@[simp] theorem chnT_ev {o1 o2 : CmpOp} : chnT o1 o2 a b c ρ = (a ρ).bind fun x => (b ρ).bind fun y => (R.of (cmpB o1 x.2 y.2)).bind fun t => if t = true then (c ρ).bind fun z => R.of (cmpB o2 y.2 z.2) else .ok false := id rfl
@[simp] theorem andT_ev : andT t u ρ = (t ρ).bind fun b => if b = true then u ρ else .ok false := id rfl
@[simp] theorem orT_ev : orT t u ρ = (t ρ).bind fun b => if b = true then .ok true else u ρ := id rfl
@[simp] theorem notT_ev : notT t ρ = (t ρ).bind fun b => .ok (!b) := id rfl
@[simp] theorem valT_ev : valT a ρ = (a ρ).bind fun x => R.of (truD x.2) := id rfl
@[simp] theorem boolE_ev : boolE t ρ = (t ρ).bind fun b => .ok (.own, .bl b) := id rfl
@[simp] theorem bvT_ev : bvT a ρ = (a ρ).bind fun x => match x.2 with | .bl b => .ok b | _ => .st := id rfl
@[simp] theorem iteE_ev : iteE t a b ρ = (t ρ).bind fun c => if c = true then a ρ else b ρ := id rfl
@[simp] theorem negE_ev : negE a ρ = (a ρ).bind fun x => match x.2 with | .int i => .ok (.own, .int (-i)) | _ => .st := id rfl
@[simp] theorem nilA_ev : nilA ρ = .ok [] := id rfl
@[simp] theorem consA_ev {r : SA} : consA a r ρ = (a ρ).bind fun x => (r ρ).bind fun xs => .ok (x :: xs) := id rfl
@[simp] theorem tupE_ev {r : SA} : tupE r ρ = (r ρ).bind fun xs => if xs.length ≤ LIM then .ok (jn xs, .tup (xs.map (·.2))) else .st := id rfl
@[simp] theorem lstE_ev {r : SA} : lstE r ρ = (r ρ).bind fun xs => if xs.length ≤ LIM then .ok (lk (jn xs) (xs.map (·.2)), .lst (xs.map (·.2))) else .st := id rfl
@[simp] theorem dnwE_ev : dnwE ρ = .ok (.own, .dic []) := id rfl
@[simp] theorem idxE_ev : idxE a b ρ = (a ρ).bind fun x => (b ρ).bind fun y => R.of (idxB x y.2) := id rfl
@[simp] theorem noO_ev : noO ρ = .ok none := id rfl
@[simp] theorem someO_ev : someO a ρ = (a ρ).bind fun x => match x.2 with | .int i => .ok (some i) | _ => .st := id rfl
@[simp] theorem slE_ev {lo hi : SO} : slE a lo hi ρ = (a ρ).bind fun x => (lo ρ).bind fun l => (hi ρ).bind fun h => R.of (slB x l h) := id rfl
@[simp] theorem callE_ev {fn : Fn} {r : SA} {dd : List D} : callE fn r dd ρ = (r ρ).bind fun xs => (fn (xs.map (·.2) ++ dd)).bind fun kd => .ok (retK kd.1 (jn xs), kd.2) := id rfl
@[simp] theorem bltE_ev {f : List KD → Option KD} {r : SA} : bltE f r ρ = (r ρ).bind fun xs => R.of (f xs) := id rfl
@[simp] theorem isiE_ev {T : String} : isiE a T ρ = (a ρ).bind fun x => match kitB (tyD x.2) T with | some b => .ok (.own, .bl b) | none => .st := id rfl
@[simp] theorem seqI_ev : seqI a ρ = (a ρ).bind fun x => match x.2 with | .lst ds => .ok (x.1, ds) | .scr ds => .ok (x.1, ds) | .tup ds => .ok (x.1, ds) | .str z => .ok (.own, z.cps.toList.map fun c => .str ⟨#[c]⟩) | _ => .st := id rfl
@[simp] theorem rng1I_ev : rng1I a ρ = (a ρ).bind fun x => match x.2 with | .int j => if rgOk j = true then .ok (.own, rng 0 j.toNat) else .st | _ => .st := id rfl
@[simp] theorem rng2I_ev : rng2I a b ρ = (a ρ).bind fun x => (b ρ).bind fun y => match x.2, y.2 with | .int i, .int j => if (rgOk i && rgOk j) = true then .ok (.own, rng i (j - i).toNat) else .st | _, _ => .st := id rfl
@[simp] theorem yesT_ev : yesT ρ = .ok true := id rfl
theorem lcE_ev {it : SI} {own : List Nat} {tg : Tgt} {ifs : STs} {elt : SE} : lcE it own tg ifs elt ρ = (it ρ).bind fun kds => if own.all (notOw ρ) = true ∧ kds.2.length ≤ LIM then (noex (lcL tg ifs elt kds.1 (wipE ρ own) kds.2)).bind fun xs => .ok (lk (jn xs) (xs.map (·.2)), .lst (xs.map (·.2))) else .st := id rfl
@[simp] theorem nilS_ev : nilS ρ = .nx ρ := id rfl
def Out.seq (o : Out) (f : Env → Out) : Out := match o with | .nx ρ' => f ρ' | o => o
@[simp] theorem seqS_ev : seqS s s' ρ = (s ρ).seq s' := id rfl
@[simp] theorem seq_nx {f : Env → Out} : (Out.nx ρ).seq f = f ρ := id rfl
@[simp] theorem seq_rt {f : Env → Out} : (Out.rt k d).seq f = .rt k d := id rfl
@[simp] theorem seq_bk {f : Env → Out} : (Out.bk ρ).seq f = .bk ρ := id rfl
@[simp] theorem seq_ct {f : Env → Out} : (Out.ct ρ).seq f = .ct ρ := id rfl
@[simp] theorem seq_ex {f : Env → Out} {c : String} : (Out.ex c ρ).seq f = .ex c ρ := id rfl
@[simp] theorem seq_st {f : Env → Out} : Out.st.seq f = .st := id rfl
@[simp] theorem seq_ite {f : Env → Out} {p : Prop} [Decidable p] {x y : Out} : (if p then x else y).seq f = if p then x.seq f else y.seq f := by split <;> rfl
def Out.turn (o : Out) (f : Env → Out) : Out := match o with | .nx ρ2 => f ρ2 | .ct ρ2 => f ρ2 | .bk ρ2 => .nx ρ2 | o => o
@[simp] theorem turn_nx {f : Env → Out} : (Out.nx ρ).turn f = f ρ := id rfl
@[simp] theorem turn_rt {f : Env → Out} : (Out.rt k d).turn f = .rt k d := id rfl
@[simp] theorem turn_bk {f : Env → Out} : (Out.bk ρ).turn f = .nx ρ := id rfl
@[simp] theorem turn_ct {f : Env → Out} : (Out.ct ρ).turn f = f ρ := id rfl
@[simp] theorem turn_ex {f : Env → Out} {c : String} : (Out.ex c ρ).turn f = .ex c ρ := id rfl
@[simp] theorem turn_st {f : Env → Out} : Out.st.turn f = .st := id rfl
@[simp] theorem turn_ite {f : Env → Out} {p : Prop} [Decidable p] {x y : Out} : (if p then x else y).turn f = if p then x.turn f else y.turn f := by split <;> rfl
def Out.fin (o : Out) : R KD := match o with | .rt k d => .ok (nk k d, d) | .nx _ => .ok (.own, .non) | .ex c _ => .ex c | _ => .st
@[simp] theorem fin_nx : (Out.nx ρ).fin = .ok (.own, .non) := id rfl
@[simp] theorem fin_rt : (Out.rt k d).fin = .ok (nk k d, d) := id rfl
@[simp] theorem nk_own : nk .own d = .own := by unfold nk; split <;> rfl
theorem nk_noL (h : noL d = true) : nk k d = .own := if_pos h
@[simp] theorem nk_int {i : Int} : nk k (.int i) = .own := nk_noL (by simp [noL])
@[simp] theorem nk_bl {i : Bool} : nk k (.bl i) = .own := nk_noL (by simp [noL])
@[simp] theorem nk_str {i : Str} : nk k (.str i) = .own := nk_noL (by simp [noL])
@[simp] theorem nk_non : nk k .non = .own := nk_noL (by simp [noL])
@[simp] theorem nk_tup {l : List D} : nk k (.tup l) = lk k l := by
  have e : noL (.tup l) = noLs l := by simp [noL]
  unfold nk lk
  rw [e]
@[simp] theorem nk_lst {l : List D} : nk k (.lst l) = k := by simp [nk, noL]
@[simp] theorem nk_dic {l : List (Key × D)} : nk k (.dic l) = k := by simp [nk, noL]
@[simp] theorem fin_ex {c : String} : (Out.ex c ρ).fin = .ex c := id rfl
@[simp] theorem fin_st : Out.st.fin = .st := id rfl
@[simp] theorem fin_ite {p : Prop} [Decidable p] {x y : Out} : (if p then x else y).fin = if p then x.fin else y.fin := by split <;> rfl
@[simp] theorem bkS_ev : bkS ρ = .bk ρ := id rfl
@[simp] theorem ctS_ev : ctS ρ = .ct ρ := id rfl
@[simp] theorem asgS_ev {g : Tgt} : asgS g a ρ = (a ρ).out ρ fun x => match g x.1 x.2 ρ with | some ρ' => .nx ρ' | none => .st := id rfl
@[simp] theorem ifS_ev : ifS t s s' ρ = (t ρ).out ρ fun c => if c = true then s ρ else s' ρ := id rfl
@[simp] theorem retS_ev : retS a ρ = (a ρ).out ρ fun x => .rt x.1 x.2 := id rfl
@[simp] theorem retV_ev {i : Nat} : retV i ρ = match ρ[i]? with | some (.ow d) => .rt .own d | some (.bo is d) => .rt (.bor is) d | _ => .st := id rfl
@[simp] theorem retN_ev : retN ρ = .rt .own .non := id rfl
@[simp] theorem raiS_ev {c : String} : raiS c ρ = .ex c ρ := id rfl
@[simp] theorem dropS_ev : dropS a ρ = (a ρ).out ρ fun _ => .nx ρ := id rfl
@[simp] theorem forS_ev {it : SI} {g : Tgt} : forS it g s ρ = (it ρ).out ρ fun kds => loopS g s kds.2 (frz kds.1.is ρ) := id rfl
@[simp] theorem loopS_nil {g : Tgt} : loopS g s [] ρ = .nx ρ := id rfl
theorem loopS_cons {g : Tgt} {ds : List D} : loopS g s (d :: ds) ρ = match g (.bor []) d ρ with | none => .st | some ρ1 => (s ρ1).turn (loopS g s ds) := id rfl
@[simp] theorem augS_ev {i : Nat} {op : Operator} : augS i op a ρ = match slD ρ[i]? with | some d0 => ((a ρ).out ρ fun x => match augB op d0 x.2 with | some d => .nx (ρ.set i (mkS .own d)) | none => .st) | none => .st := id rfl
@[simp] theorem appS_ev {i : Nat} : appS i a ρ = match ρ[i]? with | some (.ow (.lst ds)) => (a ρ).out ρ fun x => if okIn x.1 [x.2] = true ∧ ds.length < LIM then .nx ((inv i ρ).set i (.ow (.lst (ds ++ [x.2])))) else .st | _ => .st := id rfl
@[simp] theorem tgN_ev {i : Nat} : tgN i k d ρ = some (ρ.set i (mkS k d)) := id rfl
@[simp] theorem tgT_tup {g : Tgts} {ds : List D} : tgT g k (.tup ds) ρ = g k.is ds ρ := id rfl
@[simp] theorem tgT_lst {g : Tgts} {ds : List D} : tgT g k (.lst ds) ρ = g k.is ds ρ := id rfl
@[simp] theorem tgNil_ev : tgNil is [] ρ = some ρ := id rfl
@[simp] theorem tgCons_ev {g : Tgt} {r : Tgts} {ds : List D} : tgCons g r is (d :: ds) ρ = (g (.bor is) d ρ).bind fun ρ' => r is ds ρ' := id rfl
@[simp] theorem tgCons_nil {g : Tgt} {r : Tgts} : tgCons g r is [] ρ = none := id rfl
@[simp] theorem runF_ev {m : Nat} {ds : List D} : runF m s ds = (s (ds.map (Sl.bo []) ++ List.replicate (m - ds.length) .no)).fin := id rfl
theorem mkF_ev {n m : Nat} {ds : List D} : mkF n m s ds = if ds.length = n then runF m s ds else .st := id rfl
/-! kinds, slots -/
@[simp] theorem mkS_int {i : Int} : mkS k (.int i) = .bo [] (.int i) := by cases k <;> rfl
@[simp] theorem mkS_bl {i : Bool} : mkS k (.bl i) = .bo [] (.bl i) := by cases k <;> rfl
@[simp] theorem mkS_str {i : Str} : mkS k (.str i) = .bo [] (.str i) := by cases k <;> rfl
@[simp] theorem mkS_non : mkS k .non = .bo [] .non := by cases k <;> rfl
@[simp] theorem mkS_ownL {ds : List D} : mkS .own (.lst ds) = .ow (.lst ds) := id rfl
@[simp] theorem mkS_ownT {ds : List D} : mkS .own (.tup ds) = .ow (.tup ds) := id rfl
@[simp] theorem mkS_ownD {ds : List (Key × D)} : mkS .own (.dic ds) = .ow (.dic ds) := id rfl
@[simp] theorem mkS_borL {ds : List D} : mkS (.bor is) (.lst ds) = .bo is (.lst ds) := id rfl
@[simp] theorem mkS_borT {ds : List D} : mkS (.bor is) (.tup ds) = .bo is (.tup ds) := id rfl
@[simp] theorem mkS_borS {ds : List D} : mkS (.bor is) (.scr ds) = .bo is (.scr ds) := id rfl
@[simp] theorem mkS_borD {ds : List (Key × D)} : mkS (.bor is) (.dic ds) = .bo is (.dic ds) := id rfl
@[simp] theorem Kd_is_own : Kd.is .own = [] := id rfl
@[simp] theorem Kd_is_bor : Kd.is (.bor is) = is := id rfl
@[simp] theorem jn_nil : jn [] = .own := id rfl
@[simp] theorem jn_cons {x : KD} {r : List KD} : jn (x :: r) = x.1.join (jn r) := id rfl
@[simp] theorem join_oo : Kd.join .own .own = .own := id rfl
@[simp] theorem join_ob : Kd.join .own (.bor is) = .bor is := id rfl
@[simp] theorem join_bo : Kd.join (.bor is) .own = .bor is := by simp [Kd.join, Kd.is]
@[simp] theorem join_bb {js : List Nat} : Kd.join (.bor is) (.bor js) = .bor (is ++ js) := id rfl
@[simp] theorem retK_own : retK .own k = .own := id rfl
@[simp] theorem retK_bor : retK (.bor is) k = .bor k.is := id rfl
@[simp] theorem frz_nil : frz [] ρ = ρ := id rfl
@[simp] theorem frz_cons {j : Nat} : frz (j :: is) ρ = frz is (frz1 j ρ) := id rfl
@[simp] theorem frz1_ev {j : Nat} : frz1 j ρ = match ρ[j]? with | some (.ow d) => ρ.set j (.bo [] d) | _ => ρ := id rfl
@[simp] theorem inv_nil {i : Nat} : inv i [] = [] := id rfl
@[simp] theorem inv_no {i : Nat} : inv i (.no :: ρ) = .no :: inv i ρ := id rfl
@[simp] theorem inv_owc {i : Nat} : inv i (.ow d :: ρ) = .ow d :: inv i ρ := id rfl
@[simp] theorem inv_boc {i : Nat} : inv i (.bo is d :: ρ) = (if i ∈ is then .no else .bo is d) :: inv i ρ := id rfl
@[simp] theorem wipE_nil : wipE ρ [] = ρ := id rfl
@[simp] theorem wipE_cons {i : Nat} : wipE ρ (i :: is) = (wipE ρ is).set i .no := id rfl
@[simp] theorem notOw_ev {i : Nat} : notOw ρ i = (decide (i < ρ.length) && match ρ[i]? with | some (.ow _) => false | _ => true) := id rfl
@[simp] theorem slD_ow : slD (some (.ow d)) = some d := id rfl
@[simp] theorem slD_bo : slD (some (.bo is d)) = some d := id rfl
/-! values -/
@[simp] theorem opB_add {i j : Int} : opB .Add (k, .int i) (k', .int j) = some (.own, .int (i + j)) := id rfl
@[simp] theorem opB_sub {i j : Int} : opB .Sub (k, .int i) (k', .int j) = some (.own, .int (i - j)) := id rfl
@[simp] theorem opB_mul {i j : Int} : opB .Mult (k, .int i) (k', .int j) = if mulOk i j = true then some (.own, .int (i * j)) else none := id rfl
@[simp] theorem opB_div {i j : Int} : opB .FloorDiv (k, .int i) (k', .int j) = if divOk j = true then some (.own, .int (i / j)) else none := id rfl
@[simp] theorem opB_mod {i j : Int} : opB .Mod (k, .int i) (k', .int j) = if 0 < j then some (.own, .int (i % j)) else none := id rfl
@[simp] theorem opB_pow {i j : Int} : opB .Pow (k, .int i) (k', .int j) = if powOk i j = true then some (.own, .int (i ^ j.toNat)) else none := id rfl
@[simp] theorem opB_addS {i j : Str} : opB .Add (k, .str i) (k', .str j) = if i.length + j.length ≤ LIM then some (.own, .str (i ++ j)) else none := id rfl
@[simp] theorem opB_addT {x y : List D} : opB .Add (k, .tup x) (k', .tup y) = if x.length + y.length ≤ LIM then some (k.join k', .tup (x ++ y)) else none := id rfl
@[simp] theorem opB_addL {x y : List D} : opB .Add (k, .lst x) (k', .lst y) = if x.length + y.length ≤ LIM then some (lk (k.join k') (x ++ y), .lst (x ++ y)) else none := id rfl
@[simp] theorem opB_mulT {x : List D} {j : Int} : opB .Mult (k, .tup x) (k', .int j) = if x ≠ [] ∧ 1 ≤ j ∧ j ≤ 1000 ∧ x.length ≤ 1000 ∧ noLs x = true then some (k, .tup (List.replicate j.toNat x).flatten) else none := id rfl
@[simp] theorem cmpB_lt {i j : Int} : cmpB .Lt (.int i) (.int j) = some (decide (i < j)) := id rfl
@[simp] theorem cmpB_le {i j : Int} : cmpB .LtE (.int i) (.int j) = some (decide (i ≤ j)) := id rfl
@[simp] theorem cmpB_gt {i j : Int} : cmpB .Gt (.int i) (.int j) = some (decide (i > j)) := id rfl
@[simp] theorem cmpB_ge {i j : Int} : cmpB .GtE (.int i) (.int j) = some (decide (i ≥ j)) := id rfl
@[simp] theorem cmpB_eq : cmpB .Eq d d' = eqD d d' := id rfl
@[simp] theorem cmpB_ne : cmpB .NotEq d d' = (eqD d d').map (!·) := id rfl
@[simp] theorem cmpB_is : cmpB .Is d .non = some (isNon d) := id rfl
@[simp] theorem cmpB_isnot : cmpB .IsNot d .non = some (!isNon d) := id rfl
@[simp] theorem cmpB_in : cmpB .In d d' = inD d d' := id rfl
@[simp] theorem cmpB_nin : cmpB .NotIn d d' = (inD d d').map (!·) := id rfl
@[simp] theorem isNon_non : isNon .non = true := id rfl
@[simp] theorem isNon_int {i : Int} : isNon (.int i) = false := id rfl
@[simp] theorem isNon_tup {l : List D} : isNon (.tup l) = false := id rfl
@[simp] theorem isNon_lst {l : List D} : isNon (.lst l) = false := id rfl
@[simp] theorem truD_bl {x : Bool} : truD (.bl x) = some x := id rfl
@[simp] theorem truD_int {x : Int} : truD (.int x) = some (x != 0) := id rfl
@[simp] theorem augB_add {i j : Int} : augB .Add (.int i) (.int j) = some (.int (i + j)) := id rfl
@[simp] theorem augB_sub {i j : Int} : augB .Sub (.int i) (.int j) = some (.int (i - j)) := id rfl
@[simp] theorem augB_mul {i j : Int} : augB .Mult (.int i) (.int j) = if mulOk i j = true then some (.int (i * j)) else none := id rfl
@[simp] theorem idxB_lst {l : List D} {i : Int} : idxB (k, .lst l) (.int i) = (atI l i).map fun d => (k, d) := id rfl
@[simp] theorem idxB_scr {l : List D} {i : Int} : idxB (k, .scr l) (.int i) = (atI l i).map fun d => (k, d) := id rfl
@[simp] theorem idxB_tup {l : List D} {i : Int} : idxB (k, .tup l) (.int i) = (atI l i).map fun d => (k, d) := id rfl
@[simp] theorem idxB_dic {l : List (Key × D)} : idxB (k, .dic l) d = (keyD d).bind fun q => (valD l q).map fun d => (k, d) := by cases d <;> rfl
@[simp] theorem slB_lst {l : List D} {lo hi : Option Int} : slB (k, .lst l) lo hi = some (lk k (cutD l lo hi), .lst (cutD l lo hi)) := id rfl
@[simp] theorem slB_scr {l : List D} {lo hi : Option Int} : slB (k, .scr l) lo hi = some (lk k (cutD l lo hi), .lst (cutD l lo hi)) := id rfl
@[simp] theorem slB_tup {l : List D} {lo hi : Option Int} : slB (k, .tup l) lo hi = some (k, .tup (cutD l lo hi)) := id rfl
@[simp] theorem bLen_ev {x : KD} : bLen [x] = (lenD x.2).map fun (n : Nat) => (Kd.own, D.int (n : Int)) := id rfl
@[simp] theorem lenD_lst {l : List D} : lenD (.lst l) = some l.length := id rfl
@[simp] theorem lenD_scr {l : List D} : lenD (.scr l) = some l.length := id rfl
@[simp] theorem lenD_tup {l : List D} : lenD (.tup l) = some l.length := id rfl
@[simp] theorem lenD_dic {l : List (Key × D)} : lenD (.dic l) = some l.length := id rfl
@[simp] theorem bMax_2 {i j : Int} : bMax [(k, .int i), (k', .int j)] = some (.own, .int (max i j)) := id rfl
@[simp] theorem bMax_l {l : List D} : bMax [(k, .lst l)] = ((intsD l).bind maxL).map fun n => (.own, .int n) := id rfl
@[simp] theorem bMax_t {l : List D} : bMax [(k, .tup l)] = ((intsD l).bind maxL).map fun n => (.own, .int n) := id rfl
@[simp] theorem bMin_2 {i j : Int} : bMin [(k, .int i), (k', .int j)] = some (.own, .int (min i j)) := id rfl
@[simp] theorem bMin_l {l : List D} : bMin [(k, .lst l)] = ((intsD l).bind minL).map fun n => (.own, .int n) := id rfl
@[simp] theorem bMin_t {l : List D} : bMin [(k, .tup l)] = ((intsD l).bind minL).map fun n => (.own, .int n) := id rfl
@[simp] theorem bSum_l {l : List D} : bSum [(k, .lst l)] = (intsD l).map fun ns => (.own, .int ns.sum) := id rfl
@[simp] theorem bSum_s {l : List D} : bSum [(k, .scr l)] = (intsD l).map fun ns => (.own, .int ns.sum) := id rfl
@[simp] theorem bAll_l {l : List D} : bAll [(k, .lst l)] = (blsD l).map fun ns => (.own, .bl (ns.all id)) := id rfl
@[simp] theorem bAny_l {l : List D} : bAny [(k, .lst l)] = (blsD l).map fun ns => (.own, .bl (ns.any id)) := id rfl
@[simp] theorem bTup_l {l : List D} : bTup [(k, .lst l)] = some (k, .tup l) := id rfl
@[simp] theorem bTup_t {l : List D} : bTup [(k, .tup l)] = some (k, .tup l) := id rfl
@[simp] theorem bLst_l {l : List D} : bLst [(k, .lst l)] = some (lk k l, .lst l) := id rfl
@[simp] theorem bLst_t {l : List D} : bLst [(k, .tup l)] = some (lk k l, .lst l) := id rfl
@[simp] theorem bLst_s {l : List D} : bLst [(k, .scr l)] = some (lk k l, .lst l) := id rfl
@[simp] theorem bInt_i {i : Int} : bInt [(k, .int i)] = some (.own, .int i) := id rfl
@[simp] theorem bInt_b {i : Bool} : bInt [(k, .bl i)] = some (.own, .int (if i then 1 else 0)) := id rfl
@[simp] theorem bAbs_i {i : Int} : bAbs [(k, .int i)] = some (.own, .int (if i < 0 then -i else i)) := id rfl
@[simp] theorem noL_int {i : Int} : noL (.int i) = true := id rfl
@[simp] theorem noL_bl {i : Bool} : noL (.bl i) = true := id rfl
@[simp] theorem noL_str {i : Str} : noL (.str i) = true := id rfl
@[simp] theorem noL_non : noL .non = true := id rfl
@[simp] theorem noL_tup {l : List D} : noL (.tup l) = noLs l := by simp [noL]
@[simp] theorem noL_lst {l : List D} : noL (.lst l) = false := by simp [noL]
@[simp] theorem noL_dic {l : List (Key × D)} : noL (.dic l) = false := by simp [noL]
@[simp] theorem noLs_nil : noLs [] = true := by simp [noLs]
@[simp] theorem noLs_cons {l : List D} : noLs (d :: l) = (noL d && noLs l) := by simp [noLs]
@[simp] theorem noLs_app {l m : List D} : noLs (l ++ m) = (noLs l && noLs m) := by
  induction l with
  | nil => simp
  | cons x l ih => simp [ih, Bool.and_assoc]
theorem lk_own {l : List D} : lk .own l = .own := by unfold lk; split <;> rfl
@[simp] theorem lk_own' {l : List D} : lk .own l = .own := lk_own
theorem lk_noL {l : List D} (h : noLs l = true) : lk k l = .own := if_pos h
@[simp] theorem lk_ints {l : List Int} : lk k (l.map D.int) = .own := lk_noL (noLs_ints l)
@[simp] theorem okIn_own {l : List D} : okIn .own l = true := id rfl
@[simp] theorem okIn_bor {l : List D} : okIn (.bor is) l = noLs l := id rfl
@[simp] theorem noex_ok {α : Type} {x : α} : noex (.ok x) = .ok x := id rfl
@[simp] theorem R_of_ite {α : Type} {p : Prop} [Decidable p] {x y : Option α} : R.of (if p then x else y) = if p then R.of x else R.of y := by split <;> rfl
@[simp] theorem R_bind_ite {α β : Type} {p : Prop} [Decidable p] {x y : R α} {f : α → R β} : (if p then x else y).bind f = if p then x.bind f else y.bind f := by split <;> rfl
@[simp] theorem R_out_ite {α : Type} {p : Prop} [Decidable p] {x y : R α} {f : α → Out} : (if p then x else y).out ρ f = if p then x.out ρ f else y.out ρ f := by split <;> rfl
theorem lim_ge {n : Nat} (h : n ≤ 16777216) : n ≤ LIM := h
@[simp] theorem lim_lit : LIM = 16777216 := id rfl
end
end Cz
set_option maxHeartbeats 1000000
/-! Ev2: lists by places, slices, equality, sizes of numbers. -/
namespace Cz
open PySem PySem.Spec PyProof.Rows L2
/-! places -/
theorem atI_map {α β : Type} (f : α → β) (l : List α) (i : Int) : atI (l.map f) i = (atI l i).map f := by
  unfold atI
  rw [List.length_map]
  cases ixN l.length i with
  | none => rfl
  | some j => simp
theorem atI_lit {α : Type} (l : List α) (n : Nat) : atI l ((OfNat.ofNat n : Nat) : Int) = l[n]? := by
  show atI l (n : Int) = l[n]?
  cases h : l[n]? with
  | some v => exact atI_nat h
  | none =>
    unfold atI ixN
    have : l.length ≤ n := by simpa using h
    rw [if_pos (by omega), if_neg (by omega)]
    rfl
theorem atI_nn {α : Type} (l : List α) (i : Int) (h : 0 ≤ i) : atI l i = l[i.toNat]? := by
  have := atI_lit l i.toNat
  have e : ((OfNat.ofNat i.toNat : Nat) : Int) = i := by show ((i.toNat : Nat) : Int) = i; omega
  rw [e] at this
  exact this
theorem atI_neg1 {α : Type} (l : List α) : atI l (-1) = l.getLast? := by
  rcases List.eq_nil_or_concat l with h | ⟨r, x, h⟩
  · subst h; rfl
  · subst h; rw [List.concat_eq_append, atI_last]; simp
@[simp] theorem atI_0 {α : Type} (l : List α) : atI l 0 = l[0]? := atI_lit l 0
@[simp] theorem atI_1 {α : Type} (l : List α) : atI l 1 = l[1]? := atI_lit l 1
@[simp] theorem atI_ofNat {α : Type} (l : List α) (n : Nat) : atI l (no_index (@OfNat.ofNat Int n instOfNat)) = l[(OfNat.ofNat n : Nat)]? := atI_lit l n
@[simp] theorem atI_m1 {α : Type} (l : List α) : atI l (-1) = l.getLast? := atI_neg1 l
/-! slices -/
theorem sIx_pos (n d : Nat) (i : Int) (h : 0 ≤ i) : HT.sIx n d (some i) = min i.toNat n := by
  show (if i < 0 then (i + (n : Int)).toNat else min i.toNat n) = _
  rw [if_neg (by omega)]
theorem sIx_m1 (n d : Nat) : HT.sIx n d (some (-1)) = n - 1 := by
  show (if (-1 : Int) < 0 then ((-1 : Int) + (n : Int)).toNat else min (-1 : Int).toNat n) = _
  rw [if_pos (by decide)]; omega
theorem cut_from (l : List D) (i : Int) (h : 0 ≤ i) : cutD l (some i) none = l.drop i.toNat := by
  unfold cutD
  rw [HT.sIx_none, sIx_pos _ _ _ h]
  by_cases hl : i.toNat ≤ l.length
  · rw [Nat.min_eq_left hl]; exact List.take_of_length_le (by simp)
  · rw [Nat.min_eq_right (by omega), List.drop_of_length_le (i := i.toNat) (by omega)]; simp
theorem cut_to (l : List D) (i : Int) (h : 0 ≤ i) : cutD l none (some i) = l.take i.toNat := by
  unfold cutD
  rw [HT.sIx_none, sIx_pos _ _ _ h]
  simp only [List.drop_zero, Nat.sub_zero]
  rw [List.take_eq_take_iff]; omega
theorem cut_both (l : List D) (i j : Int) (h : 0 ≤ i) (h' : 0 ≤ j) : cutD l (some i) (some j) = (l.take j.toNat).drop i.toNat := by
  unfold cutD
  rw [sIx_pos _ _ _ h, sIx_pos _ _ _ h']
  apply List.ext_getElem?
  intro n
  simp only [List.getElem?_take, List.getElem?_drop]
  by_cases h1 : i.toNat ≤ l.length
  · by_cases h2 : j.toNat ≤ l.length
    · rw [Nat.min_eq_left h1, Nat.min_eq_left h2]
      by_cases h3 : n < j.toNat - i.toNat
      · rw [if_pos h3, if_pos (by omega)]
      · rw [if_neg h3, if_neg (by omega)]
    · rw [Nat.min_eq_left h1, Nat.min_eq_right (by omega)]
      by_cases h3 : n < l.length - i.toNat
      · rw [if_pos h3, if_pos (by omega)]
      · rw [if_neg h3]
        split
        · rw [List.getElem?_eq_none (by omega)]
        · rfl
  · rw [Nat.min_eq_right (by omega : l.length ≤ i.toNat)]
    have e1 : l[i.toNat + n]? = none := List.getElem?_eq_none (by omega)
    have e2 : l[l.length + n]? = none := List.getElem?_eq_none (by omega)
    rw [e1, e2]
    split <;> split <;> rfl
/-- [:-1] -/
theorem cut_init (l : List D) : cutD l none (some (-1)) = l.dropLast := by
  unfold cutD
  rw [HT.sIx_none, sIx_m1, List.dropLast_eq_take]
  rfl
@[simp] theorem noLs_take {l : List D} {n : Nat} (h : noLs l = true) : noLs (l.take n) = true := by
  induction l generalizing n with
  | nil => simp
  | cons x l ih => cases n with
    | zero => simp
    | succ n => simp at h ⊢; exact ⟨h.1, ih h.2⟩
@[simp] theorem noLs_drop {l : List D} {n : Nat} (h : noLs l = true) : noLs (l.drop n) = true := by
  induction l generalizing n with
  | nil => simp
  | cons x l ih => cases n with
    | zero => simpa using h
    | succ n => simp at h ⊢; exact ih h.2
/-! ranges -/
@[simp] theorem rng_len (lo : Int) (n : Nat) : (rng lo n).length = n := by simp [rng]
theorem rgOk_of {i : Int} (h1 : -4611686018427387904 ≤ i) (h2 : i < 4611686018427387904) : rgOk i = true := by
  unfold rgOk
  rw [@decide_eq_true _ (Classical.propDecidable _) (by omega), @decide_eq_true _ (Classical.propDecidable _) (by omega)]
  rfl
@[simp] theorem noLs_rng (lo : Int) (n : Nat) : noLs (rng lo n) = true := by
  have : rng lo n = ((List.range n).map fun (i : Nat) => lo + (i : Int)).map D.int := by simp [rng, Function.comp]
  rw [this]; exact noLs_ints _
/-! comprehensions -/
theorem lcL_map {α : Type} {tg : Tgt} {elt : SE} {k : Kd} {ρ : Env} {f : α → D} {g : α → KD} : ∀ {l : List α}, (∀ a ∈ l, ∃ ρ1, tg (.bor k.is) (f a) ρ = some ρ1 ∧ elt ρ1 = .ok (g a)) → lcL tg yesT elt k ρ (l.map f) = .ok (l.map g)
  | [], _ => rfl
  | a :: l, h => by
    obtain ⟨ρ1, h1, h2⟩ := h a List.mem_cons_self
    have ih := lcL_map (l := l) fun a ha => h a (List.mem_cons_of_mem _ ha)
    rw [List.map_cons, lcL, h1]
    simp only [yesT_ev, R.bind_ok, if_true, h2, ih, List.map_cons]
theorem lcL_filter {α : Type} {tg : Tgt} {ifs : STs} {elt : SE} {k : Kd} {ρ : Env} {f : α → D} {p : α → Bool} {g : α → KD} : ∀ {l : List α}, (∀ a ∈ l, ∃ ρ1, tg (.bor k.is) (f a) ρ = some ρ1 ∧ ifs ρ1 = .ok (p a) ∧ (p a = true → elt ρ1 = .ok (g a))) →
    lcL tg ifs elt k ρ (l.map f) = .ok ((l.filter p).map g)
  | [], _ => rfl
  | a :: l, h => by
    obtain ⟨ρ1, h1, h2, h3⟩ := h a List.mem_cons_self
    have ih := lcL_filter (l := l) fun a ha => h a (List.mem_cons_of_mem _ ha)
    rw [List.map_cons, lcL, h1]
    simp only [h2, R.bind_ok]
    cases hp : p a with
    | true => simp [h3 hp, ih, hp]
    | false => simp [ih, hp]
theorem jn_own {xs : List KD} (h : ∀ x ∈ xs, x.1 = .own) : jn xs = .own := by
  induction xs with
  | nil => rfl
  | cons x xs ih => simp [h x List.mem_cons_self, ih fun y hy => h y (List.mem_cons_of_mem _ hy)]
theorem noLs_map {α : Type} {f : α → D} {l : List α} (h : ∀ a ∈ l, noL (f a) = true) : noLs (l.map f) = true := by
  induction l with
  | nil => simp
  | cons x l ih => simp [h x List.mem_cons_self, ih fun y hy => h y (List.mem_cons_of_mem _ hy)]
section
variable {α : Type} {it : SI} {own : List Nat} {tg : Tgt} {ifs : STs} {elt : SE} {ρ : Env} {k : Kd} {l : List α} {f h : α → D} {p : α → Bool}
/-- [e for x in l], e without lists -/
theorem lcE_noL (hit : it ρ = .ok (k, l.map f)) (hown : own.all (notOw ρ) = true) (hlen : l.length ≤ 16777216) (hh : ∀ a ∈ l, ∃ ρ1 k', tg (.bor k.is) (f a) (wipE ρ own) = some ρ1 ∧ elt ρ1 = .ok (k', h a) ∧ noL (h a) = true) :
    lcE it own tg yesT elt ρ = .ok (.own, .lst (l.map h)) := by
  have hk : ∀ a : α, ∃ k', a ∈ l → ∃ ρ1, tg (.bor k.is) (f a) (wipE ρ own) = some ρ1 ∧ elt ρ1 = .ok (k', h a) := fun a => by
    by_cases ha : a ∈ l
    · obtain ⟨ρ1, k', h1, h2, _⟩ := hh a ha; exact ⟨k', fun _ => ⟨ρ1, h1, h2⟩⟩
    · exact ⟨.own, fun z => absurd z ha⟩
  have := lcL_map (tg := tg) (elt := elt) (k := k) (ρ := wipE ρ own) (f := f) (l := l) (g := fun a => ((hk a).choose, h a)) fun a ha => (hk a).choose_spec ha
  rw [lcE_ev, hit]
  simp only [R.bind_ok]
  rw [if_pos ⟨hown, by simpa using hlen⟩, this]
  simp only [noex_ok, R.bind_ok, List.map_map, Function.comp_def]
  rw [lk_noL (noLs_map fun a ha => let ⟨_, _, _, _, z⟩ := hh a ha; z)]
/-- [e for x in l], e new each time -/
theorem lcE_own (hit : it ρ = .ok (k, l.map f)) (hown : own.all (notOw ρ) = true) (hlen : l.length ≤ 16777216) (hh : ∀ a ∈ l, ∃ ρ1, tg (.bor k.is) (f a) (wipE ρ own) = some ρ1 ∧ elt ρ1 = .ok (.own, h a)) :
    lcE it own tg yesT elt ρ = .ok (.own, .lst (l.map h)) := by
  have := lcL_map (tg := tg) (elt := elt) (k := k) (ρ := wipE ρ own) (f := f) (l := l) (g := fun a => (.own, h a)) hh
  rw [lcE_ev, hit]
  simp only [R.bind_ok]
  rw [if_pos ⟨hown, by simpa using hlen⟩, this]
  simp only [noex_ok, R.bind_ok, List.map_map, Function.comp_def]
  rw [jn_own (by intro x hx; obtain ⟨a, _, e⟩ := List.mem_map.mp hx; rw [← e])]
  simp
/-- [e for x in l if c], e without lists -/
theorem lcE_filter (hit : it ρ = .ok (k, l.map f)) (hown : own.all (notOw ρ) = true) (hlen : l.length ≤ 16777216) (hh : ∀ a ∈ l, ∃ ρ1, tg (.bor k.is) (f a) (wipE ρ own) = some ρ1 ∧ ifs ρ1 = .ok (p a) ∧ (p a = true → ∃ k', elt ρ1 = .ok (k', h a) ∧ noL (h a) = true)) :
    lcE it own tg ifs elt ρ = .ok (.own, .lst ((l.filter p).map h)) := by
  have hk : ∀ a : α, ∃ k', a ∈ l → ∃ ρ1, tg (.bor k.is) (f a) (wipE ρ own) = some ρ1 ∧ ifs ρ1 = .ok (p a) ∧ (p a = true → elt ρ1 = .ok (k', h a)) := fun a => by
    by_cases ha : a ∈ l
    · obtain ⟨ρ1, h1, h2, h3⟩ := hh a ha
      cases hp : p a with
      | true => obtain ⟨k', h4, _⟩ := h3 hp; exact ⟨k', fun _ => ⟨ρ1, h1, by rw [h2, hp], fun _ => h4⟩⟩
      | false => exact ⟨.own, fun _ => ⟨ρ1, h1, by rw [h2, hp], fun z => by cases z⟩⟩
    · exact ⟨.own, fun z => absurd z ha⟩
  have := lcL_filter (tg := tg) (ifs := ifs) (elt := elt) (k := k) (ρ := wipE ρ own) (f := f) (l := l) (p := p) (g := fun a => ((hk a).choose, h a)) fun a ha => (hk a).choose_spec ha
  rw [lcE_ev, hit]
  simp only [R.bind_ok]
  rw [if_pos ⟨hown, by simpa using hlen⟩, this]
  simp only [noex_ok, R.bind_ok, List.map_map, Function.comp_def]
  rw [lk_noL (noLs_map fun a ha => let ⟨_, _, _, h3⟩ := hh a (List.mem_filter.mp ha).1; let ⟨_, _, z⟩ := h3 (List.mem_filter.mp ha).2; z)]
end
@[simp] theorem blsD_fn {α : Type} (f : α → Bool) : ∀ l : List α, blsD (l.map fun a => D.bl (f a)) = some (l.map f)
  | [] => rfl
  | x :: l => by simp [blsD, blsD_fn f l]
@[simp] theorem intsD_fn {α : Type} (f : α → Int) : ∀ l : List α, intsD (l.map fun a => D.int (f a)) = some (l.map f)
  | [] => rfl
  | x :: l => by simp [intsD, intsD_fn f l]
@[simp] theorem noLs_fnI {α : Type} (f : α → Int) (l : List α) : noLs (l.map fun a => D.int (f a)) = true := noLs_map fun _ _ => rfl
@[simp] theorem noLs_fnB {α : Type} (f : α → Bool) (l : List α) : noLs (l.map fun a => D.bl (f a)) = true := noLs_map fun _ _ => rfl
theorem iteP {α : Type} {p : Prop} [Decidable p] {a b : α} (h : p) : (if p then a else b) = a := if_pos h
theorem iteN {α : Type} {p : Prop} [Decidable p] {a b : α} (h : ¬ p) : (if p then a else b) = b := if_neg h
@[simp] theorem intsD_nil : intsD [] = some [] := rfl
@[simp] theorem intsD_cons {i : Int} {l : List D} : intsD (.int i :: l) = (intsD l).map (i :: ·) := by simp only [intsD]
@[simp] theorem intsD_appI {l : List Int} {m : List D} : intsD (l.map .int ++ m) = (intsD m).map (l ++ ·) := by
  induction l with
  | nil => simp
  | cons x l ih => simp [ih, Function.comp_def]
@[simp] theorem blsD_nil : blsD [] = some [] := rfl
@[simp] theorem blsD_cons {i : Bool} {l : List D} : blsD (.bl i :: l) = (blsD l).map (i :: ·) := by simp only [blsD]
@[simp] theorem maxL_cons {x : Int} {l : List Int} : maxL (x :: l) = some (l.foldl max x) := rfl
@[simp] theorem minL_cons {x : Int} {l : List Int} : minL (x :: l) = some (l.foldl min x) := rfl
/-- an item of a list of ints -/
theorem at_ints {l : List Int} {i : Int} (h0 : 0 ≤ i) (h1 : i < l.length) : ∃ v, atI (l.map D.int) i = some (.int v) ∧ v ∈ l ∧ l[i.toNat]? = some v := by
  rw [atI_nn _ _ h0]
  have h : i.toNat < l.length := by omega
  exact ⟨l[i.toNat], by simp [h], List.getElem_mem h, by simp [h]⟩
@[simp] theorem intsD_takeI {l : List Int} {n : Nat} : intsD ((l.map D.int).take n) = some (l.take n) := by rw [← List.map_take]; exact intsD_map _
@[simp] theorem intsD_dropI {l : List Int} {n : Nat} : intsD ((l.map D.int).drop n) = some (l.drop n) := by rw [← List.map_drop]; exact intsD_map _
@[simp] theorem noLs_takeI {l : List Int} {n : Nat} : noLs ((l.map D.int).take n) = true := noLs_take (noLs_ints l)
@[simp] theorem noLs_dropI {l : List Int} {n : Nat} : noLs ((l.map D.int).drop n) = true := noLs_drop (noLs_ints l)
@[simp] theorem noLs_repI {x : Int} {n : Nat} : noLs (List.replicate n (D.int x)) = true := by
  induction n with
  | zero => simp
  | succ n ih => simp [List.replicate_succ, ih]
theorem lk_of {k : Kd} {l : List D} (h : noLs l = true) : lk k l = .own := lk_noL h
/-! sizes -/
theorem log2_of {i : Int} {n : Nat} (h : i.natAbs < 2 ^ n) (h0 : 0 < n) : i.natAbs.log2 < n := PySem.Flt.log2_lt_of h0 h
theorem mulOk_of {i j : Int} {a b : Nat} (ha : i.natAbs < 2 ^ a) (hb : j.natAbs < 2 ^ b) (h0 : 0 < a) (h1 : 0 < b) (h : a + b ≤ 100000000) : mulOk i j = true := by
  have x := log2_of ha h0
  have y := log2_of hb h1
  exact decide_eq_true (by omega)
/-- both below 2^64 -/
theorem mulOk_small {i j : Int} (h1 : -18446744073709551616 < i) (h2 : i < 18446744073709551616) (h3 : -18446744073709551616 < j) (h4 : j < 18446744073709551616) : mulOk i j = true :=
  mulOk_of (a := 64) (b := 64) (by omega) (by omega) (by decide) (by decide) (by decide)
theorem divOk_of {j : Int} {b : Nat} (h : 0 < j) (hb : j.natAbs < 2 ^ b) (h0 : 0 < b) (h9 : b ≤ 9000) : divOk j = true := by
  unfold divOk
  rw [decide_eq_true h, decide_eq_true (Nat.lt_of_lt_of_le (log2_of hb h0) h9)]
  rfl
theorem divOk_small {j : Int} (h : 0 < j) (h2 : j < 18446744073709551616) : divOk j = true := divOk_of (b := 64) h (by omega) (by decide) (by decide)
/-! equality -/
mutual
/-- equality of data -/
def eqv2 : D → D → Bool
  | .non, .non => true
  | .bl a, .bl b => a == b
  | .bl a, .int j => (if a then 1 else 0) == j
  | .int i, .bl b => i == (if b then 1 else 0)
  | .int i, .int j => i == j
  | .str x, .str y => x == y
  | .lst x, .lst y => eqvs x y
  | .lst x, .scr y => eqvs x y
  | .scr x, .lst y => eqvs x y
  | .scr x, .scr y => eqvs x y
  | .tup x, .tup y => eqvs x y
  | _, _ => false
def eqvs : List D → List D → Bool
  | [], [] => true
  | x :: xs, y :: ys => eqv2 x y && eqvs xs ys
  | _, _ => false
end
mutual
/-- it may be compared: no dicts, at most n deep -/
def cmD : Nat → D → Bool
  | _, .non => true
  | _, .bl _ => true
  | _, .int _ => true
  | _, .str x => PyData.strOk x
  | 0, .tup _ => false
  | 0, .lst _ => false
  | 0, .scr _ => false
  | n + 1, .tup ds => cmDs n ds
  | n + 1, .lst ds => cmDs n ds
  | n + 1, .scr ds => cmDs n ds
  | _, .dic _ => false
def cmDs : Nat → List D → Bool
  | _, [] => true
  | n, d :: ds => cmD n d && cmDs n ds
end
mutual
theorem toP_of : ∀ {n : Nat} {d : D}, cmD n d = true → ∃ p, toP d = some p ∧ p.canLay0 = true ∧ p.depth ≤ n
  | _, .non, _ => ⟨.none, by simp [toP], by simp [PyData.canLay0], by simp [PyData.depth]⟩
  | _, .bl b, _ => ⟨.bool b, by simp [toP], by simp [PyData.canLay0], by simp [PyData.depth]⟩
  | _, .int b, _ => ⟨.int b, by simp [toP], by simp [PyData.canLay0], by simp [PyData.depth]⟩
  | _, .str b, h => ⟨.str b, by simp [toP], by simpa [PyData.canLay0, cmD] using h, by simp [PyData.depth]⟩
  | 0, .tup _, h => by simp [cmD] at h
  | 0, .lst _, h => by simp [cmD] at h
  | 0, .scr _, h => by simp [cmD] at h
  | n + 1, .tup ds, h => by
    obtain ⟨p, h1, h2, h3⟩ := toPs_of (n := n) (ds := ds) (by simpa [cmD] using h)
    exact ⟨.tuple p, by simp [toP, h1], by simpa [PyData.canLay0] using h2, by simpa [PyData.depth] using h3⟩
  | n + 1, .lst ds, h => by
    obtain ⟨p, h1, h2, h3⟩ := toPs_of (n := n) (ds := ds) (by simpa [cmD] using h)
    exact ⟨.list p, by simp [toP, h1], by simpa [PyData.canLay0] using h2, by simpa [PyData.depth] using h3⟩
  | n + 1, .scr ds, h => by
    obtain ⟨p, h1, h2, h3⟩ := toPs_of (n := n) (ds := ds) (by simpa [cmD] using h)
    exact ⟨.list p, by simp [toP, h1], by simpa [PyData.canLay0] using h2, by simpa [PyData.depth] using h3⟩
  | n, .dic _, h => by cases n <;> simp [cmD] at h
theorem toPs_of : ∀ {n : Nat} {ds : List D}, cmDs n ds = true → ∃ p, toPs ds = some p ∧ PyData.canLayAll0 p = true ∧ PyData.depthAll p ≤ n
  | _, [], _ => ⟨[], by simp [toPs], by simp [PyData.canLayAll0], by simp [PyData.depthAll]⟩
  | n, d :: ds, h => by
    have h : cmD n d = true ∧ cmDs n ds = true := by simpa [cmDs] using h
    obtain ⟨p, h1, h2, h3⟩ := toP_of h.1
    obtain ⟨q, h4, h5, h6⟩ := toPs_of h.2
    exact ⟨p :: q, by simp [toPs, h1, h4], by simp [PyData.canLayAll0, h2, h5], by simp [PyData.depthAll]; omega⟩
end
mutual
theorem eqv_of : ∀ {a b : D} {p q : PyData}, toP a = some p → toP b = some q → PyData.eqv p q = eqv2 a b
  | a, b, p, q, h1, h2 => by
    cases a with
    | tup x =>
      cases hx : toPs x with
      | none => simp [toP, hx] at h1
      | some x' =>
        simp [toP, hx] at h1; subst h1
        cases b with
        | tup y =>
          cases hy : toPs y with
          | none => simp [toP, hy] at h2
          | some y' => simp [toP, hy] at h2; subst h2; simp [PyData.eqv, eqv2]; exact eqvs_of hx hy
        | lst y => cases hy : toPs y <;> simp [toP, hy] at h2; subst h2; simp [PyData.eqv, eqv2]
        | scr y => cases hy : toPs y <;> simp [toP, hy] at h2; subst h2; simp [PyData.eqv, eqv2]
        | dic y => simp [toP] at h2
        | _ => simp [toP] at h2; subst h2; simp [PyData.eqv, eqv2]
    | lst x =>
      cases hx : toPs x with
      | none => simp [toP, hx] at h1
      | some x' =>
        simp [toP, hx] at h1; subst h1
        cases b with
        | lst y =>
          cases hy : toPs y with
          | none => simp [toP, hy] at h2
          | some y' => simp [toP, hy] at h2; subst h2; simp [PyData.eqv, eqv2]; exact eqvs_of hx hy
        | scr y =>
          cases hy : toPs y with
          | none => simp [toP, hy] at h2
          | some y' => simp [toP, hy] at h2; subst h2; simp [PyData.eqv, eqv2]; exact eqvs_of hx hy
        | tup y => cases hy : toPs y <;> simp [toP, hy] at h2; subst h2; simp [PyData.eqv, eqv2]
        | dic y => simp [toP] at h2
        | _ => simp [toP] at h2; subst h2; simp [PyData.eqv, eqv2]
    | scr x =>
      cases hx : toPs x with
      | none => simp [toP, hx] at h1
      | some x' =>
        simp [toP, hx] at h1; subst h1
        cases b with
        | lst y =>
          cases hy : toPs y with
          | none => simp [toP, hy] at h2
          | some y' => simp [toP, hy] at h2; subst h2; simp [PyData.eqv, eqv2]; exact eqvs_of hx hy
        | scr y =>
          cases hy : toPs y with
          | none => simp [toP, hy] at h2
          | some y' => simp [toP, hy] at h2; subst h2; simp [PyData.eqv, eqv2]; exact eqvs_of hx hy
        | tup y => cases hy : toPs y <;> simp [toP, hy] at h2; subst h2; simp [PyData.eqv, eqv2]
        | dic y => simp [toP] at h2
        | _ => simp [toP] at h2; subst h2; simp [PyData.eqv, eqv2]
    | dic x => simp [toP] at h1
    | _ =>
      simp [toP] at h1; subst h1
      cases b with
      | tup y => cases hy : toPs y <;> simp [toP, hy] at h2; subst h2; simp [PyData.eqv, eqv2]
      | lst y => cases hy : toPs y <;> simp [toP, hy] at h2; subst h2; simp [PyData.eqv, eqv2]
      | scr y => cases hy : toPs y <;> simp [toP, hy] at h2; subst h2; simp [PyData.eqv, eqv2]
      | dic y => simp [toP] at h2
      | _ => simp [toP] at h2; subst h2; simp [PyData.eqv, eqv2]
theorem eqvs_of : ∀ {a b : List D} {p q : List PyData}, toPs a = some p → toPs b = some q → PyData.eqvAll p q = eqvs a b
  | [], [], p, q, h1, h2 => by simp [toPs] at h1 h2; subst h1; subst h2; simp [PyData.eqvAll, eqvs]
  | [], y :: ys, p, q, h1, h2 => by
    simp [toPs] at h1; subst h1
    cases hy : toP y <;> cases hys : toPs ys <;> simp [toPs, hy, hys] at h2
    subst h2; simp [PyData.eqvAll, eqvs]
  | x :: xs, [], p, q, h1, h2 => by
    simp [toPs] at h2; subst h2
    cases hy : toP x <;> cases hys : toPs xs <;> simp [toPs, hy, hys] at h1
    subst h1; simp [PyData.eqvAll, eqvs]
  | x :: xs, y :: ys, p, q, h1, h2 => by
    cases hx : toP x <;> cases hxs : toPs xs <;> simp [toPs, hx, hxs] at h1
    cases hy : toP y <;> cases hys : toPs ys <;> simp [toPs, hy, hys] at h2
    subst h1; subst h2
    simp [PyData.eqvAll, eqvs, eqv_of hx hy, eqvs_of hxs hys]
end
theorem eqD_of {a b : D} (h1 : cmD 64 a = true) (h2 : cmD 64 b = true) : eqD a b = some (eqv2 a b) := by
  obtain ⟨p, e1, l1, d1⟩ := toP_of h1
  obtain ⟨q, e2, l2, d2⟩ := toP_of h2
  unfold eqD
  rw [e1, e2]
  have s1 : SeqAt.shaped p = true := by unfold SeqAt.shaped; rw [l1, decide_eq_true d1]; rfl
  have s2 : SeqAt.shaped q = true := by unfold SeqAt.shaped; rw [l2, decide_eq_true d2]; rfl
  simp only [s1, s2, if_true, eqv_of e1 e2]
section
variable {n : Nat}
@[simp] theorem cmD_int {i : Int} : cmD n (.int i) = true := by cases n <;> simp [cmD]
@[simp] theorem cmD_bl {i : Bool} : cmD n (.bl i) = true := by cases n <;> simp [cmD]
@[simp] theorem cmD_non : cmD n .non = true := by cases n <;> simp [cmD]
@[simp] theorem cmD_str {x : Str} : cmD n (.str x) = PyData.strOk x := by cases n <;> simp [cmD]
@[simp] theorem cmD_tup {l : List D} : cmD (n + 1) (.tup l) = cmDs n l := by simp [cmD]
@[simp] theorem cmD_lst {l : List D} : cmD (n + 1) (.lst l) = cmDs n l := by simp [cmD]
@[simp] theorem cmD_scr {l : List D} : cmD (n + 1) (.scr l) = cmDs n l := by simp [cmD]
@[simp] theorem cmDs_nil : cmDs n [] = true := by cases n <;> simp [cmDs]
@[simp] theorem cmDs_cons {d : D} {l : List D} : cmDs n (d :: l) = (cmD n d && cmDs n l) := by cases n <;> simp [cmDs]
theorem cmDs_all {l : List D} : cmDs n l = l.all (cmD n) := by
  induction l with
  | nil => simp
  | cons x l ih => simp [ih]
@[simp] theorem cmDs_map {α : Type} {f : α → D} {l : List α} : cmDs n (l.map f) = l.all (fun x => cmD n (f x)) := by rw [cmDs_all, List.all_map]; rfl
@[simp] theorem eqv2_int {i j : Int} : eqv2 (.int i) (.int j) = decide (i = j) := by simp only [eqv2]; rfl
@[simp] theorem eqv2_bl {i j : Bool} : eqv2 (.bl i) (.bl j) = decide (i = j) := by cases i <;> cases j <;> simp [eqv2]
@[simp] theorem eqv2_str {i j : Str} : eqv2 (.str i) (.str j) = decide (i = j) := by simp only [eqv2]; rfl
@[simp] theorem eqv2_tup {x y : List D} : eqv2 (.tup x) (.tup y) = eqvs x y := by simp only [eqv2]
@[simp] theorem eqv2_lst {x y : List D} : eqv2 (.lst x) (.lst y) = eqvs x y := by simp only [eqv2]
@[simp] theorem eqv2_tl {x y : List D} : eqv2 (.tup x) (.lst y) = false := by simp only [eqv2]
@[simp] theorem eqv2_lt {x y : List D} : eqv2 (.lst x) (.tup y) = false := by simp only [eqv2]
@[simp] theorem eqv2_ls {x : List D} {y : Str} : eqv2 (.lst x) (.str y) = false := by simp only [eqv2]
@[simp] theorem eqv2_is {x : Int} {y : Str} : eqv2 (.int x) (.str y) = false := by simp only [eqv2]
@[simp] theorem eqv2_bs {x : Bool} {y : Str} : eqv2 (.bl x) (.str y) = false := by simp only [eqv2]
@[simp] theorem eqv2_nn : eqv2 .non .non = true := by simp only [eqv2]
@[simp] theorem eqv2_tn {x : List D} : eqv2 (.tup x) .non = false := by simp only [eqv2]
@[simp] theorem eqv2_nt {x : List D} : eqv2 .non (.tup x) = false := by simp only [eqv2]
@[simp] theorem eqvs_nil : eqvs [] [] = true := by simp only [eqvs]
@[simp] theorem eqvs_cons {x y : D} {l m : List D} : eqvs (x :: l) (y :: m) = (eqv2 x y && eqvs l m) := by simp only [eqvs]
@[simp] theorem eqvs_nc {x : D} {l : List D} : eqvs [] (x :: l) = false := by simp only [eqvs]
@[simp] theorem eqvs_cn {x : D} {l : List D} : eqvs (x :: l) [] = false := by simp only [eqvs]
theorem eqvs_map {α : Type} [DecidableEq α] (f : α → D) (h : ∀ x y, eqv2 (f x) (f y) = decide (x = y)) : ∀ l m : List α, eqvs (l.map f) (m.map f) = decide (l = m)
  | [], [] => by simp
  | [], y :: m => by simp
  | x :: l, [] => by simp
  | x :: l, y :: m => by simp [h, eqvs_map f h l m]
@[simp] theorem eqvs_ints (l m : List Int) : eqvs (l.map D.int) (m.map D.int) = decide (l = m) := eqvs_map _ (fun _ _ => eqv2_int) l m
@[simp] theorem eqvs_tups (l m : List (List Int)) : eqvs (l.map fun r => D.tup (r.map D.int)) (m.map fun r => D.tup (r.map D.int)) = decide (l = m) := eqvs_map _ (fun _ _ => by simp) l m
@[simp] theorem eqvs_lsts (l m : List (List Int)) : eqvs (l.map fun r => D.lst (r.map D.int)) (m.map fun r => D.lst (r.map D.int)) = decide (l = m) := eqvs_map _ (fun _ _ => by simp) l m
@[simp] theorem eqD_int {i j : Int} : eqD (.int i) (.int j) = some (decide (i = j)) := by rw [eqD_of (by simp) (by simp)]; simp
@[simp] theorem eqD_bl {i j : Bool} : eqD (.bl i) (.bl j) = some (decide (i = j)) := by rw [eqD_of (by simp) (by simp)]; simp
@[simp] theorem eqD_tupI {l m : List Int} : eqD (.tup (l.map .int)) (.tup (m.map .int)) = some (decide (l = m)) := by rw [eqD_of (by simp) (by simp)]; simp
@[simp] theorem eqD_lstI {l m : List Int} : eqD (.lst (l.map .int)) (.lst (m.map .int)) = some (decide (l = m)) := by rw [eqD_of (by simp) (by simp)]; simp
theorem eqD_str {i j : Str} (h1 : PyData.strOk i = true) (h2 : PyData.strOk j = true) : eqD (.str i) (.str j) = some (decide (i = j)) := by rw [eqD_of (by simp [h1]) (by simp [h2])]; simp
end
end Cz
namespace Cz
open PySem PySem.Spec PyProof.Rows L2
noncomputable def b_p_is_way_1 : SS := (seqS (ifS (notT (chnT .LtE .LtE (conE (.int 0)) (locE 2) (locE 1))) (retS (conE (.bl false))) nilS)
    (asgS (tgN 1) (bltE bMax (consA (locE 1) (consA (binE .Add (locE 2) (conE (.int 1))) nilA)))))
theorem b_p_is_way_1_ev {ρ : Env} : b_p_is_way_1 ρ = (seqS (ifS (notT (chnT .LtE .LtE (conE (.int 0)) (locE 2) (locE 1))) (retS (conE (.bl false))) nilS)
    (asgS (tgN 1) (bltE bMax (consA (locE 1) (consA (binE .Add (locE 2) (conE (.int 1))) nilA))))) ρ := rfl
noncomputable def b_p_is_way : SS := (seqS (ifS (notT (chnT .LtE .LtE (conE (.int 1)) (bltE bLen (consA (locE 0) nilA)) (conE (.int 9)))) (retS (conE (.bl false))) nilS)
    (seqS (asgS (tgN 1) (conE (.int 0)))
    (seqS (forS (seqI (locE 0)) (tgN 2) b_p_is_way_1)
    (retS (conE (.bl true))))))
noncomputable def f_p_is_way : Fn := mkF 1 3 b_p_is_way
noncomputable def b_l_draw_1 : SS := (seqS (asgS (tgN 3) (binE .Mod (binE .Add (binE .Mult (binE .Mod (binE .Mult (locE 3) (locE 3)) (conE (.int 2147483647))) (binE .Add (locE 3) (conE (.int 17)))) (conE (.int 12553))) (conE (.int 2147483647))))
    (seqS (appS 4 (iteE (cmpT .Gt (locE 2) (conE (.int 0))) (binE .Mod (locE 2) (locE 5)) (binE .Mod (binE .Add (binE .FloorDiv (locE 3) (conE (.int 59))) (binE .Mult (binE .Mod (locE 3) (conE (.int 8191))) (conE (.int 31)))) (locE 5))))
    (asgS (tgN 2) (binE .FloorDiv (locE 2) (locE 5)))))
theorem b_l_draw_1_ev {ρ : Env} : b_l_draw_1 ρ = (seqS (asgS (tgN 3) (binE .Mod (binE .Add (binE .Mult (binE .Mod (binE .Mult (locE 3) (locE 3)) (conE (.int 2147483647))) (binE .Add (locE 3) (conE (.int 17)))) (conE (.int 12553))) (conE (.int 2147483647))))
    (seqS (appS 4 (iteE (cmpT .Gt (locE 2) (conE (.int 0))) (binE .Mod (locE 2) (locE 5)) (binE .Mod (binE .Add (binE .FloorDiv (locE 3) (conE (.int 59))) (binE .Mult (binE .Mod (locE 3) (conE (.int 8191))) (conE (.int 31)))) (locE 5))))
    (asgS (tgN 2) (binE .FloorDiv (locE 2) (locE 5))))) ρ := rfl
noncomputable def b_l_draw : SS := (seqS (asgS (tgN 2) (iteE (cmpT .GtE (locE 0) (binE .Pow (conE (.int 10)) (conE (.int 18)))) (locE 0) (conE (.int 0))))
    (seqS (asgS (tgN 3) (binE .Mod (binE .Add (binE .Mult (binE .Mod (locE 0) (conE (.int 2147483629))) (conE (.int 48271))) (conE (.int 7919))) (conE (.int 2147483647))))
    (seqS (asgS (tgN 4) (lstE nilA))
    (seqS (forS (seqI (locE 1)) (tgN 5) b_l_draw_1)
    (retV 4)))))
noncomputable def f_l_draw : Fn := mkF 2 6 b_l_draw
noncomputable def b_l_cell : SS := (seqS (ifS (cmpT .Lt (locE 1) (bltE bLen (consA (locE 0) nilA))) (retS (idxE (locE 0) (locE 1))) nilS)
    (retS (binE .Add (binE .Add (binE .Mult (binE .Mod (bltE bSum (consA (locE 0) nilA)) (conE (.int 1000003))) (conE (.int 131))) (binE .Mult (bltE bLen (consA (locE 0) nilA)) (conE (.int 7919)))) (binE .Mult (locE 1) (conE (.int 104729))))))
noncomputable def f_l_cell : Fn := mkF 2 2 b_l_cell
noncomputable def b_l_many : SS := (retS (bltE bMax (consA (locE 1) (consA (bltE bMin (consA (bltE bLen (consA (locE 0) nilA)) (consA (conE (.int 63)) nilA))) nilA))))
noncomputable def f_l_many : Fn := mkF 2 2 b_l_many
noncomputable def e_l_row_ok_1 : SE := (boolE (chnT .LtE .LtE (conE (.int 0)) (idxE (locE 0) (locE 1)) (binE .Add (bltE bMax (consA (slE (locE 0) noO (someO (locE 1))) nilA)) (conE (.int 1)))))
theorem e_l_row_ok_1_ev {ρ : Env} : e_l_row_ok_1 ρ = (boolE (chnT .LtE .LtE (conE (.int 0)) (idxE (locE 0) (locE 1)) (binE .Add (bltE bMax (consA (slE (locE 0) noO (someO (locE 1))) nilA)) (conE (.int 1))))) ρ := rfl
noncomputable def b_l_row_ok : SS := (seqS (ifS (orT (notT (chnT .LtE .LtE (conE (.int 1)) (bltE bLen (consA (locE 0) nilA)) (conE (.int 9)))) (cmpT .NotEq (idxE (locE 0) (conE (.int 0))) (conE (.int 0)))) (retS (conE (.bl false))) nilS)
    (retS (bltE bAll (consA (lcE (rng2I (conE (.int 1)) (bltE bLen (consA (locE 0) nilA))) [1] (tgN 1) yesT e_l_row_ok_1) nilA))))
noncomputable def f_l_row_ok : Fn := mkF 1 2 b_l_row_ok
noncomputable def b_l_split_1 : SS := (ifS (valT (locE 6)) (seqS (appS 5 (binE .Add (binE .Pow (conE (.int 10)) (conE (.int 18))) (binE .Mod (locE 0) (locE 4))))
    (asgS (tgN 0) (binE .FloorDiv (locE 0) (locE 4)))) (appS 5 (binE .Add (binE .Mult (locE 0) (binE .Add (binE .Mult (conE (.int 2)) (locE 7)) (conE (.int 3)))) (binE .Mult (conE (.int 7919)) (locE 7)))))
theorem b_l_split_1_ev {ρ : Env} : b_l_split_1 ρ = (ifS (valT (locE 6)) (seqS (appS 5 (binE .Add (binE .Pow (conE (.int 10)) (conE (.int 18))) (binE .Mod (locE 0) (locE 4))))
    (asgS (tgN 0) (binE .FloorDiv (locE 0) (locE 4)))) (appS 5 (binE .Add (binE .Mult (locE 0) (binE .Add (binE .Mult (conE (.int 2)) (locE 7)) (conE (.int 3)))) (binE .Mult (conE (.int 7919)) (locE 7))))) ρ := rfl
noncomputable def b_l_split : SS := (seqS (asgS (tgN 3) (binE .Mult (binE .Pow (conE (.int 10)) (conE (.int 60))) (binE .Pow (conE (.int 10)) (conE (.int 60)))))
    (seqS (asgS (tgN 4) (idxE (lstE (consA (binE .Pow (conE (.int 10)) (conE (.int 30))) (consA (locE 3) (consA (binE .Mult (binE .Mult (binE .Mult (locE 3) (locE 3)) (locE 3)) (locE 3)) nilA)))) (locE 2)))
    (seqS (asgS (tgN 5) (lstE nilA))
    (seqS (asgS (tgN 6) (boolE (cmpT .GtE (locE 0) (binE .Pow (conE (.int 10)) (conE (.int 18))))))
    (seqS (forS (rng1I (locE 1)) (tgN 7) b_l_split_1)
    (retV 5))))))
noncomputable def f_l_split : Fn := mkF 3 8 b_l_split
noncomputable def e_l_way_1 : SE := (binE .Add (locE 6) (conE (.int 1)))
theorem e_l_way_1_ev {ρ : Env} : e_l_way_1 ρ = (binE .Add (locE 6) (conE (.int 1))) ρ := rfl
noncomputable def b_l_way_2 : SS := (appS 4 (bltE bMin (consA (binE .Sub (locE 3) (conE (.int 1))) (consA (binE .Mod (locE 5) (binE .Add (bltE bMax (consA (binE .Add (lstE (consA (negE (conE (.int 1))) nilA)) (locE 4)) nilA)) (conE (.int 2)))) nilA))))
theorem b_l_way_2_ev {ρ : Env} : b_l_way_2 ρ = (appS 4 (bltE bMin (consA (binE .Sub (locE 3) (conE (.int 1))) (consA (binE .Mod (locE 5) (binE .Add (bltE bMax (consA (binE .Add (lstE (consA (negE (conE (.int 1))) nilA)) (locE 4)) nilA)) (conE (.int 2)))) nilA)))) ρ := rfl
noncomputable def b_l_way : SS := (seqS (asgS (tgN 2) (callE f_l_draw (consA (locE 0) (consA (binE .Add (lstE (consA (conE (.int 4)) nilA)) (lcE (rng1I (locE 1)) [6] (tgN 6) yesT e_l_way_1)) nilA)) []))
    (seqS (asgS (tgN 3) (idxE (lstE (consA (conE (.int 9)) (consA (conE (.int 2)) (consA (conE (.int 3)) (consA (conE (.int 9)) nilA))))) (idxE (locE 2) (conE (.int 0)))))
    (seqS (asgS (tgN 4) (lstE nilA))
    (seqS (forS (seqI (slE (locE 2) (someO (conE (.int 1))) noO)) (tgN 5) b_l_way_2)
    (retS (bltE bTup (consA (locE 4) nilA)))))))
noncomputable def f_l_way : Fn := mkF 2 7 b_l_way
noncomputable def e_l_some_row_1 : SE := (conE (.int 12))
theorem e_l_some_row_1_ev {ρ : Env} : e_l_some_row_1 ρ = (conE (.int 12)) ρ := rfl
noncomputable def e_l_some_row_2 : SE := (binE .Sub (locE 9) (conE (.int 2)))
theorem e_l_some_row_2_ev {ρ : Env} : e_l_some_row_2 ρ = (binE .Sub (locE 9) (conE (.int 2))) ρ := rfl
noncomputable def b_l_some_row : SS := (seqS (asgS (tgT (tgCons (tgN 1) (tgCons (tgN 2) tgNil))) (callE f_l_split (consA (locE 0) (consA (conE (.int 2)) nilA)) [.int 0]))
    (seqS (asgS (tgN 3) (callE f_l_draw (consA (locE 1) (consA (binE .Add (lstE (consA (conE (.int 4)) (consA (conE (.int 9)) (consA (conE (.int 12)) (consA (conE (.int 9)) (consA (conE (.int 25)) nilA)))))) (lcE (rng1I (conE (.int 11))) [8] (tgN 8) yesT e_l_some_row_1)) nilA)) []))
    (seqS (ifS (cmpT .Eq (idxE (locE 3) (conE (.int 0))) (conE (.int 0))) (retS (bltE bTup (consA (lcE (seqI (slE (locE 3) (someO (conE (.int 5))) (someO (binE .Add (conE (.int 5)) (idxE (locE 3) (conE (.int 2))))))) [9] (tgN 9) yesT e_l_some_row_2) nilA))) nilS)
    (seqS (asgS (tgN 4) (callE f_l_way (consA (locE 2) (consA (binE .Add (idxE (locE 3) (conE (.int 1))) (conE (.int 1))) nilA)) []))
    (seqS (ifS (cmpT .Eq (idxE (locE 3) (conE (.int 0))) (conE (.int 1))) (retV 4) nilS)
    (seqS (ifS (cmpT .Eq (idxE (locE 3) (conE (.int 0))) (conE (.int 2))) (retS (binE .Add (locE 4) (binE .Mult (tupE (consA (binE .Mod (idxE (locE 3) (conE (.int 4))) (binE .Add (bltE bMax (consA (locE 4) nilA)) (conE (.int 3)))) nilA)) (binE .Add (conE (.int 1)) (binE .Mod (idxE (locE 3) (conE (.int 3))) (conE (.int 2))))))) nilS)
    (seqS (asgS (tgN 5) (binE .Mod (idxE (locE 3) (conE (.int 3))) (bltE bLen (consA (locE 4) nilA))))
    (seqS (asgS (tgN 6) (binE .Add (bltE bMax (consA (slE (locE 4) noO (someO (binE .Add (locE 5) (conE (.int 1))))) nilA)) (conE (.int 1))))
    (seqS (asgS (tgN 7) (idxE (lstE (consA (binE .Sub (idxE (locE 3) (conE (.int 4))) (conE (.int 2))) (consA (locE 6) (consA (binE .Mod (locE 0) (binE .Pow (conE (.int 10)) (conE (.int 40)))) (consA (negE (conE (.int 1))) nilA))))) (binE .Mod (idxE (locE 3) (conE (.int 2))) (conE (.int 4)))))
    (retS (binE .Add (binE .Add (slE (locE 4) noO (someO (locE 5))) (tupE (consA (locE 7) nilA))) (slE (locE 4) (someO (binE .Add (locE 5) (conE (.int 1)))) noO))))))))))))
noncomputable def f_l_some_row : Fn := mkF 1 10 b_l_some_row
noncomputable def b_l_law_k01_1 : SS := (seqS (asgS (tgN 2) (callE f_l_some_row (consA (callE f_l_cell (consA (locE 0) (consA (locE 1) nilA)) []) nilA) []))
    (seqS (asgS (tgN 3) (callE f_p_is_way (consA (locE 2) nilA) []))
    (ifS (orT (notT (valT (isiE (locE 3) "bool"))) (cmpT .NotEq (locE 3) (callE f_l_row_ok (consA (locE 2) nilA) []))) (retS (conE (.bl false))) nilS)))
theorem b_l_law_k01_1_ev {ρ : Env} : b_l_law_k01_1 ρ = (seqS (asgS (tgN 2) (callE f_l_some_row (consA (callE f_l_cell (consA (locE 0) (consA (locE 1) nilA)) []) nilA) []))
    (seqS (asgS (tgN 3) (callE f_p_is_way (consA (locE 2) nilA) []))
    (ifS (orT (notT (valT (isiE (locE 3) "bool"))) (cmpT .NotEq (locE 3) (callE f_l_row_ok (consA (locE 2) nilA) []))) (retS (conE (.bl false))) nilS))) ρ := rfl
noncomputable def b_l_law_k01 : SS := (seqS (forS (rng1I (callE f_l_many (consA (locE 0) (consA (conE (.int 2)) nilA)) [])) (tgN 1) b_l_law_k01_1)
    (retS (conE (.bl true))))
noncomputable def f_l_law_k01 : Fn := mkF 1 4 b_l_law_k01
end Cz
set_option maxHeartbeats 1000000
set_option exponentiation.threshold 20000
/-! Lb1: the laws' common helpers: draw, cell, many, split. -/
namespace Cz
open PySem PySem.Spec PyProof.Rows L2
/-- each within its limit -/
inductive InR : List Int → List Int → Prop
  | nil : InR [] []
  | cons {l x : Int} {ls xs : List Int} : 0 ≤ x → x < l → InR ls xs → InR (l :: ls) (x :: xs)
theorem InR.len {ls xs : List Int} (h : InR ls xs) : xs.length = ls.length := by induction h <;> simp_all
theorem InR.get {ls xs : List Int} (h : InR ls xs) : ∀ {i : Nat} {l : Int}, ls[i]? = some l → ∃ x, xs[i]? = some x ∧ 0 ≤ x ∧ x < l := by
  induction h with
  | nil => intro i l e; simp at e
  | cons h1 h2 _ ih =>
    intro i l e
    cases i with
    | zero => simp at e; subst e; exact ⟨_, rfl, h1, h2⟩
    | succ i => simp at e ⊢; exact ih e
theorem InR.app {ms : List Int} : ∀ {ls : List Int} {xs : List Int}, InR (ls ++ ms) xs → ∃ a b, xs = a ++ b ∧ InR ls a ∧ InR ms b
  | [], xs, h => ⟨[], xs, rfl, .nil, h⟩
  | l :: ls, _, .cons h1 h2 h => by
    obtain ⟨a, b, e, h3, h4⟩ := InR.app h
    exact ⟨_ :: a, b, by rw [e]; rfl, .cons h1 h2 h3, h4⟩
/-- a limit -/
def LimOk (l : Int) : Prop := 0 < l ∧ l.natAbs < 2 ^ 9000
theorem LimOk.of {l : Int} (h : 0 < l) (h2 : l < 18446744073709551616) : LimOk l := ⟨h, Nat.lt_of_lt_of_le (show l.natAbs < 2 ^ 64 by omega) (Nat.pow_le_pow_right (by decide) (by decide))⟩
theorem LimOk.pow {l : Int} {n : Nat} (h : 0 < l) (h2 : l.natAbs < 2 ^ n) (h3 : n ≤ 9000) : LimOk l := ⟨h, Nat.lt_of_lt_of_le h2 (Nat.pow_le_pow_right (by decide) h3)⟩
theorem LimOk.div {l : Int} (h : LimOk l) : divOk l = true := divOk_of h.1 h.2 (by decide) (by decide)
theorem draw_loop (ls : List Int) (hl : ∀ l ∈ ls, LimOk l) (a0 a1 : D) : ∀ (rest seed : Int) (acc : List Int) (s5 : Sl), 0 ≤ rest → 0 ≤ seed → seed < 2147483647 → acc.length + ls.length < 16777216 →
    ∃ rest' seed' s5' row, loopS (tgN 5) b_l_draw_1 (ls.map D.int) [.bo [] a0, .bo [] a1, .bo [] (.int rest), .bo [] (.int seed), .ow (.lst (acc.map .int)), s5] =
      .nx [.bo [] a0, .bo [] a1, .bo [] (.int rest'), .bo [] (.int seed'), .ow (.lst ((acc ++ row).map .int)), s5'] ∧ InR ls row := by
  induction ls with
  | nil => intro rest seed acc s5 _ _ _ _; exact ⟨_, _, _, [], by simp; exact ⟨rfl, rfl, rfl⟩, .nil⟩
  | cons l ls ih =>
    intro rest seed acc s5 h1 h2 h3 h4
    have hl0 := hl l List.mem_cons_self
    have hd := hl0.div
    have hp := hl0.1
    simp only [List.length_cons] at h4
    have m1 : mulOk seed seed = true := mulOk_small (by omega) (by omega) (by omega) (by omega)
    obtain ⟨q, hq⟩ : ∃ q, q = seed * seed % 2147483647 := ⟨_, rfl⟩
    have hq1 : 0 ≤ q := by omega
    have hq2 : q < 2147483647 := by omega
    have m2 : mulOk q (seed + 17) = true := mulOk_small (by omega) (by omega) (by omega) (by omega)
    obtain ⟨n, hn⟩ : ∃ n, n = (q * (seed + 17) + 12553) % 2147483647 := ⟨_, rfl⟩
    have hn1 : 0 ≤ n := by omega
    have hn2 : n < 2147483647 := by omega
    have m3 : mulOk (n % 8191) 31 = true := mulOk_small (by omega) (by omega) (by omega) (by omega)
    have d59 : divOk 59 = true := by decide
    obtain ⟨x, hx, hx1, hx2⟩ : ∃ x, x = (if 0 < rest then rest % l else (n / 59 + n % 8191 * 31) % l) ∧ 0 ≤ x ∧ x < l := by
      refine ⟨_, rfl, ?_, ?_⟩
      · split <;> exact Int.emod_nonneg _ (by omega)
      · split <;> exact Int.emod_lt_of_pos _ hp
    have hr : 0 ≤ rest / l := Int.ediv_nonneg h1 (by omega)
    obtain ⟨rest', seed', s5', row, e, r⟩ := ih (fun l' h' => hl l' (List.mem_cons_of_mem _ h')) (rest / l) n (acc ++ [x]) (.bo [] (.int l)) hr hn1 hn2 (by simp; omega)
    refine ⟨rest', seed', s5', x :: row, ?_, .cons hx1 hx2 r⟩
    rw [List.map_cons, loopS_cons]
    have hlen : acc.length < 16777216 := by omega
    by_cases h0 : 0 < rest
    · simp only [if_pos h0] at hx
      simp [b_l_draw_1_ev, m1, ← hq, m2, ← hn, h0, hp, ← hx, hd, hlen]
      simpa using e
    · simp only [if_neg h0] at hx
      simp [b_l_draw_1_ev, m1, ← hq, m2, ← hn, h0, m3, d59, hp, ← hx, hd, hlen]
      simpa using e
theorem draw_ok (c : Int) (ls : List Int) (hl : ∀ l ∈ ls, LimOk l) (hn : ls.length < 16777216) : ∃ row, f_l_draw [.int c, .lst (ls.map .int)] = .ok (.own, .lst (row.map .int)) ∧ InR ls row := by
  have p1 : powOk 10 18 = true := by decide
  obtain ⟨r, hr, hr0⟩ : ∃ r, r = (if (1000000000000000000 : Int) ≤ c then c else 0) ∧ 0 ≤ r := ⟨_, rfl, by split <;> omega⟩
  have m1 : mulOk (c % 2147483629) 48271 = true := mulOk_small (by omega) (by omega) (by omega) (by omega)
  obtain ⟨s, hs⟩ : ∃ s, s = (c % 2147483629 * 48271 + 7919) % 2147483647 := ⟨_, rfl⟩
  obtain ⟨rest', seed', s5', row, e, i⟩ := draw_loop ls hl (.int c) (.lst (ls.map .int)) r s [] .no hr0 (by omega) (by omega) (by simpa using hn)
  refine ⟨row, ?_, i⟩
  simp at e
  by_cases h : (1000000000000000000 : Int) ≤ c
  · rw [if_pos h] at hr
    subst hr
    simp [f_l_draw, mkF_ev, b_l_draw, p1, h, m1, ← hs, e]
  · rw [if_neg h] at hr
    subst hr
    simp [f_l_draw, mkF_ev, b_l_draw, p1, h, m1, ← hs, e]
end Cz
set_option maxHeartbeats 1000000
/-! Lb2: many, cell, split. -/
namespace Cz
open PySem PySem.Spec PyProof.Rows L2
theorem lims_of {ls : List Int} (h : ls.all (fun l => decide (0 < l) && decide (l < 18446744073709551616)) = true) : ∀ l ∈ ls, LimOk l := fun l hl => by
  have := List.all_eq_true.mp h l hl
  simp at this
  exact .of this.1 this.2
/-- limits as they are written -/
theorem draw_lit (c : Int) (ls : List Int) (h : ls.all (fun l => decide (0 < l) && decide (l < 18446744073709551616)) = true) (hn : ls.length < 16777216) : ∃ row, f_l_draw [.int c, .lst (ls.map .int)] = .ok (.own, .lst (row.map .int)) ∧ InR ls row := draw_ok c ls (lims_of h) hn
/-- how many turns -/
def turns (ns : List Int) (few : Int) : Int := max few (min ns.length 63)
theorem many_ok (ns : List Int) (few : Int) : f_l_many [.scr (ns.map .int), .int few] = .ok (.own, .int (turns ns few)) := by
  simp [f_l_many, mkF_ev, b_l_many, turns]
/-- a number of a cell's size, j splits on -/
def Cel (j : Nat) (c : Int) : Prop := c.natAbs < 2 ^ (1048700 + 2000 * j)
theorem Cel.small {j : Nat} {c : Int} (h : c.natAbs < 2 ^ 2000) : Cel j c := Nat.lt_of_lt_of_le h (Nat.pow_le_pow_right (by decide) (by omega))
theorem Cel.mono {i j : Nat} {c : Int} (h : Cel i c) (hij : i ≤ j) : Cel j c := Nat.lt_of_lt_of_le h (Nat.pow_le_pow_right (by decide) (by omega))
theorem Cel.mul {j : Nat} {c m : Int} (h : Cel j c) (hj : j ≤ 40000) (hm : m.natAbs < 2 ^ 64) : mulOk c m = true := mulOk_of h hm (by omega) (by decide) (by omega)
theorem Cel.add {j : Nat} {c m a : Int} (h : Cel j c) (hm : m.natAbs < 2 ^ 64) (ha : a.natAbs < 2 ^ 64) : Cel (j + 1) (c * m + a) := by
  unfold Cel at h ⊢
  have e1 : (c * m).natAbs < 2 ^ (1048700 + 2000 * j + 64) := by
    rw [Int.natAbs_mul, Nat.pow_add]
    exact Nat.mul_lt_mul'' h hm
  have e2 : 2 ^ (1048700 + 2000 * j + 64) + 2 ^ 64 ≤ 2 ^ (1048700 + 2000 * (j + 1)) := by
    have : (2 : Nat) ^ 64 ≤ 2 ^ (1048700 + 2000 * j + 64) := Nat.pow_le_pow_right (by decide) (by omega)
    have h3 : (2 : Nat) ^ (1048700 + 2000 * j + 64) * 2 ≤ 2 ^ (1048700 + 2000 * (j + 1)) := by
      rw [← Nat.pow_succ]; exact Nat.pow_le_pow_right (by decide) (by omega)
    omega
  have e3 := Int.natAbs_add_le (c * m) a
  omega
def cellI (ns : List Int) (k : Nat) : Int := if k < ns.length then ns.getD k 0 else ns.sum % 1000003 * 131 + ns.length * 7919 + k * 104729
theorem cell_ok (ns : List Int) (k : Nat) (hk : k < 1000000) (hl : ns.length < 1000000) : f_l_cell [.scr (ns.map .int), .int k] = .ok (.own, .int (cellI ns k)) := by
  have m1 : mulOk (ns.sum % 1000003) 131 = true := mulOk_small (by omega) (by omega) (by omega) (by omega)
  have m2 : mulOk (ns.length : Int) 7919 = true := mulOk_small (by omega) (by omega) (by omega) (by omega)
  have m3 : mulOk (k : Int) 104729 = true := mulOk_small (by omega) (by omega) (by omega) (by omega)
  by_cases h : k < ns.length
  · have h' : (k : Int) < ns.length := by omega
    have e : atI (ns.map D.int) (k : Int) = some (.int (ns.getD k 0)) := by
      rw [atI_nn _ _ (by omega)]
      simp [List.getD, h]
    simp [f_l_cell, mkF_ev, b_l_cell, cellI, h, h', e]
  · have h' : ¬ (k : Int) < ns.length := by omega
    simp [f_l_cell, mkF_ev, b_l_cell, cellI, h, h', m1, m2, m3]
theorem intBits_lt {z : Int} {n : Nat} (h : Builtin.Int.intBits z ≤ n) : z.natAbs < 2 ^ n := by
  by_cases h0 : z = 0
  · subst h0; simp; exact Nat.two_pow_pos n
  · unfold Builtin.Int.intBits at h
    rw [if_neg (by simpa using h0)] at h
    exact (Nat.log2_lt (by omega)).mp (by omega)
theorem cell_cel (ns : List Int) (k : Nat) (hk : k < 1000000) (hl : ns.length < 1000000) (hb : ∀ z ∈ ns, Builtin.Int.intBits z ≤ 1048576) : Cel 0 (cellI ns k) := by
  unfold cellI
  split
  · rename_i h
    have : ns.getD k 0 ∈ ns := by simp [List.getD, h]
    exact Nat.lt_of_lt_of_le (intBits_lt (hb _ this)) (Nat.pow_le_pow_right (by decide) (by decide))
  · refine Cel.small ?_
    have : (2 : Nat) ^ 64 ≤ 2 ^ 2000 := Nat.pow_le_pow_right (by decide) (by decide)
    have := Int.emod_nonneg ns.sum (show (1000003 : Int) ≠ 0 by decide)
    have := Int.emod_lt_of_pos ns.sum (show (0 : Int) < 1000003 by decide)
    omega
/-! split -/
theorem split_loop (w : Int) (hw : LimOk w) (hw2 : w.natAbs < 2 ^ 1900) (a1 a2 a3 : D) (ks : List Nat) (hk : ∀ k ∈ ks, k < 1000) : ∀ (j : Nat) (c : Int) (big : Bool) (acc : List Int) (s7 : Sl), Cel j c → j ≤ 30000 → acc.length + ks.length < 16777216 →
    ∃ (c' : Int) (s7' : Sl) (row : List Int), loopS (tgN 7) b_l_split_1 (ks.map fun (i : Nat) => .int (0 + (i : Int))) [.bo [] (.int c), .bo [] a1, .bo [] a2, .bo [] a3, .bo [] (.int w), .ow (.lst (acc.map .int)), .bo [] (.bl big), s7] =
      .nx [.bo [] (.int c'), .bo [] a1, .bo [] a2, .bo [] a3, .bo [] (.int w), .ow (.lst ((acc ++ row).map .int)), .bo [] (.bl big), s7'] ∧ row.length = ks.length ∧ ∀ x ∈ row, Cel (j + 1) x := by
  induction ks with
  | nil => intro j c big acc s7 _ _ _; exact ⟨_, _, [], by simp; exact ⟨rfl, rfl⟩, rfl, by simp⟩
  | cons k ks ih =>
    intro j c big acc s7 h1 h2 h3
    simp only [List.length_cons] at h3
    have hk0 := hk k List.mem_cons_self
    have hd := hw.div
    have hp := hw.1
    have p18 : powOk 10 18 = true := by decide
    have hlen : acc.length < 16777216 := by omega
    cases big with
    | true =>
      have c2 : Cel j (c / w) := by
        have : (c / w).natAbs ≤ c.natAbs := by
          by_cases hc : 0 ≤ c
          · have := Int.ediv_le_self w hc
            have := Int.ediv_nonneg hc (show 0 ≤ w by omega)
            omega
          · have e1 := Int.ediv_mul_le c (show w ≠ 0 by omega)
            have e2 : c ≤ c / w := by
              rcases Int.lt_or_le (c / w) c with h | h
              · exfalso
                have e3 : c < (c / w + 1) * w := Int.lt_ediv_add_one_mul_self c hp
                have e4 : c / w + 1 ≤ c := by omega
                have e5 : (c / w + 1) * w ≤ c * w := Int.mul_le_mul_of_nonneg_right e4 (by omega)
                have e6 : c * w ≤ c * 1 := Int.mul_le_mul_of_nonpos_left (by omega) (by omega)
                omega
              · exact h
            have e7 : c / w ≤ 0 := Int.ediv_nonpos_of_nonpos_of_neg (by omega) (by omega)
            omega
        exact Nat.lt_of_le_of_lt this h1
      obtain ⟨c', s7', row, e, hl, hr⟩ := ih (fun k' h' => hk k' (List.mem_cons_of_mem _ h')) j (c / w) true (acc ++ [1000000000000000000 + c % w]) (.bo [] (.int k)) c2 h2 (by simp; omega)
      refine ⟨c', s7', (1000000000000000000 + c % w) :: row, ?_, by simp [hl], fun x hx => ?_⟩
      · rw [List.map_cons, loopS_cons]
        simp [b_l_split_1_ev, p18, hp, hd, hlen]
        simpa using e
      · rcases List.mem_cons.mp hx with e | hx
        · subst e
          refine Cel.small ?_
          have := Int.emod_nonneg c (show w ≠ 0 by omega)
          have := Int.emod_lt_of_pos c hp
          have : (2 : Nat) ^ 1900 * 2 ≤ 2 ^ 2000 := by rw [← Nat.pow_succ]; exact Nat.pow_le_pow_right (by decide) (by decide)
          have : (2 : Nat) ^ 64 ≤ 2 ^ 1900 := Nat.pow_le_pow_right (by decide) (by decide)
          omega
        · exact hr x hx
    | false =>
      have hm : ((2 * (k : Int) + 3)).natAbs < 2 ^ 64 := by omega
      have ha : (7919 * (k : Int)).natAbs < 2 ^ 64 := by omega
      have m1 : mulOk 2 (k : Int) = true := mulOk_small (by omega) (by omega) (by omega) (by omega)
      have m2 : mulOk 7919 (k : Int) = true := mulOk_small (by omega) (by omega) (by omega) (by omega)
      have m3 : mulOk c (2 * (k : Int) + 3) = true := h1.mul (by omega) hm
      obtain ⟨c', s7', row, e, hl, hr⟩ := ih (fun k' h' => hk k' (List.mem_cons_of_mem _ h')) j c false (acc ++ [c * (2 * (k : Int) + 3) + 7919 * (k : Int)]) (.bo [] (.int k)) h1 h2 (by simp; omega)
      refine ⟨c', s7', (c * (2 * (k : Int) + 3) + 7919 * (k : Int)) :: row, ?_, by simp [hl], fun x hx => ?_⟩
      · rw [List.map_cons, loopS_cons]
        simp [b_l_split_1_ev, m1, m2, m3, hlen]
        simpa using e
      · rcases List.mem_cons.mp hx with e | hx
        · subst e
          exact h1.add hm ha
        · exact hr x hx
/-- 10 ^ 30, 10 ^ 120, 10 ^ 480: what a split cuts off -/
def wA : Int := 10 ^ 60
def wB : Int := wA * wA
def wW (w : Nat) : Int := if w = 0 then 1000000000000000000000000000000 else if w = 1 then wB else wB * wB * wB * wB
theorem mul_lt2 {x y : Int} {a b : Nat} (h1 : x.natAbs < 2 ^ a) (h2 : y.natAbs < 2 ^ b) : (x * y).natAbs < 2 ^ (a + b) := by rw [Int.natAbs_mul, Nat.pow_add]; exact Nat.mul_lt_mul'' h1 h2
theorem wA_lt : wA.natAbs < 2 ^ 200 := by decide +kernel
theorem wA_pos : 0 < wA := by decide +kernel
theorem wB_pos : 0 < wB := Int.mul_pos wA_pos wA_pos
theorem wB_lt : wB.natAbs < 2 ^ 400 := mul_lt2 wA_lt wA_lt
theorem wB2_lt : (wB * wB).natAbs < 2 ^ 800 := mul_lt2 wB_lt wB_lt
theorem wB3_lt : (wB * wB * wB).natAbs < 2 ^ 1200 := mul_lt2 wB2_lt wB_lt
theorem wB4_lt : (wB * wB * wB * wB).natAbs < 2 ^ 1600 := mul_lt2 wB3_lt wB_lt
theorem w30_lt : (1000000000000000000000000000000 : Int).natAbs < 2 ^ 100 := by decide +kernel
theorem w30_pos : 0 < (1000000000000000000000000000000 : Int) := by decide +kernel
theorem wW_lim (w : Nat) : LimOk (wW w) ∧ (wW w).natAbs < 2 ^ 1900 := by
  have up : ∀ {x : Int} {a : Nat}, 0 < x → x.natAbs < 2 ^ a → a ≤ 1900 → LimOk x ∧ x.natAbs < 2 ^ 1900 := fun h0 h1 h2 => ⟨.pow h0 h1 (Nat.le_trans h2 (by decide)), Nat.lt_of_lt_of_le h1 (Nat.pow_le_pow_right (by decide) h2)⟩
  unfold wW
  split
  · exact up w30_pos w30_lt (by decide)
  · split
    · exact up wB_pos wB_lt (by decide)
    · exact up (Int.mul_pos (Int.mul_pos (Int.mul_pos wB_pos wB_pos) wB_pos) wB_pos) wB4_lt (by decide)
theorem wW_at (w : Nat) (hw : w < 3) : atI [D.int 1000000000000000000000000000000, D.int wB, D.int (wB * wB * wB * wB)] (w : Int) = some (.int (wW w)) := by
  match w, hw with
  | 0, _ => rfl
  | 1, _ => rfl
  | 2, _ => rfl
theorem wA_eq : (10 : Int) ^ 60 = wA := id rfl
theorem wB_eq : wA * wA = wB := id rfl
theorem w30_eq : (10 : Int) ^ 30 = 1000000000000000000000000000000 := by decide +kernel
theorem w18_eq : (10 : Int) ^ 18 = 1000000000000000000 := by decide +kernel
theorem split_ev (c : Int) (n w : Nat) (W : Int) (big : Bool) (x y : Sl) (c' : Int) (row : List Int) (hbig : big = decide (1000000000000000000 ≤ c)) (rg : rgOk (n : Int) = true) (hW : atI [D.int 1000000000000000000000000000000, D.int wB, D.int (wB * wB * wB * wB)] (w : Int) = some (.int W))
    (e : loopS (tgN 7) b_l_split_1 ((List.range n).map fun (i : Nat) => .int (i : Int)) [.bo [] (.int c), .bo [] (.int n), .bo [] (.int w), .bo [] (.int wB), .bo [] (.int W), .ow (.lst []), .bo [] (.bl big), .no] =
      .nx [.bo [] (.int c'), .bo [] (.int n), .bo [] (.int w), .bo [] (.int wB), .bo [] (.int W), .ow (.lst (row.map .int)), x, y]) : f_l_split [.int c, .int n, .int w] = .ok (.own, .lst (row.map .int)) := by
  have p18 : powOk 10 18 = true := by decide
  have p30 : powOk 10 30 = true := by decide
  have p60 : powOk 10 60 = true := by decide
  have m1 : mulOk wA wA = true := mulOk_of wA_lt wA_lt (by decide) (by decide) (by decide)
  have m2 : mulOk wB wB = true := mulOk_of wB_lt wB_lt (by decide) (by decide) (by decide)
  have m3 : mulOk (wB * wB) wB = true := mulOk_of wB2_lt wB_lt (by decide) (by decide) (by decide)
  have m4 : mulOk (wB * wB * wB) wB = true := mulOk_of wB3_lt wB_lt (by decide) (by decide) (by decide)
  simp [f_l_split, mkF_ev, b_l_split, p18, p30, p60, wA_eq, wB_eq, m1, m2, m3, m4, rg, rng, hW, ← hbig, e]
theorem split_ok (c : Int) (j : Nat) (n : Nat) (w : Nat) (hc : Cel j c) (hj : j ≤ 30000) (hn : n ≤ 1000) (hw : w < 3) : ∃ row : List Int, f_l_split [.int c, .int n, .int w] = .ok (.own, .lst (row.map .int)) ∧ row.length = n ∧ ∀ x ∈ row, Cel (j + 1) x := by
  have rg : rgOk (n : Int) = true := rgOk_of (by omega) (by omega)
  obtain ⟨l1, l2⟩ := wW_lim w
  obtain ⟨c', s7', row, e, hl, hr⟩ := split_loop (wW w) l1 l2 (.int n) (.int w) (.int wB) (List.range n) (fun k hk => by have := List.mem_range.mp hk; omega) j c (decide (1000000000000000000 ≤ c)) [] .no hc hj (by simp; omega)
  refine ⟨row, split_ev c n w (wW w) _ (.bo [] (.bl (decide (1000000000000000000 ≤ c)))) s7' c' row rfl rg (wW_at w hw) ?_, by simpa using hl, hr⟩
  simpa using e
end Cz
set_option maxHeartbeats 1000000
/-! Lb3: ways: is_way, the law's row_ok, the law's way. -/
namespace Cz
open PySem PySem.Spec PyProof.Rows L2
def wayGo : Int → List Int → Bool
  | _, [] => true
  | ab, x :: xs => decide (0 ≤ x) && decide (x ≤ ab) && wayGo (max ab (x + 1)) xs
/-- a way -/
def isWay (l : List Int) : Bool := decide (1 ≤ l.length) && decide (l.length ≤ 9) && wayGo 0 l
/-- the count of woods ahead -/
def wayAb (ab : Int) (l : List Int) : Int := l.foldl (fun a x => max a (x + 1)) ab
theorem wayGo_app (l m : List Int) : ∀ ab, wayGo ab (l ++ m) = (wayGo ab l && wayGo (wayAb ab l) m) := by
  induction l with
  | nil => intro ab; simp [wayGo, wayAb]
  | cons x l ih => intro ab; simp [wayGo, wayAb, ih, Bool.and_assoc]
theorem wayAb_app (l m : List Int) (ab : Int) : wayAb ab (l ++ m) = wayAb (wayAb ab l) m := by simp [wayAb]
theorem wayAb_max (l : List Int) : ∀ m : Int, wayAb (m + 1) l = l.foldl max m + 1 := by
  induction l with
  | nil => intro m; rfl
  | cons x l ih =>
    intro m
    show wayAb (max (m + 1) (x + 1)) l = l.foldl max (max m x) + 1
    rw [show max (m + 1) (x + 1) = max m x + 1 by omega, ih]
/-! is_way -/
theorem is_way_loop (l : List Int) : ∀ (R : D) (ab : Int) (s : Sl), ∃ ρ, loopS (tgN 2) b_p_is_way_1 (l.map D.int) [.bo [] R, .bo [] (.int ab), s] = if wayGo ab l = true then .nx ρ else .rt .own (.bl false) := by
  induction l with
  | nil => intro R ab s; exact ⟨_, by simp [wayGo]; rfl⟩
  | cons x xs ih =>
    intro R ab s
    obtain ⟨ρ, h⟩ := ih R (max ab (x + 1)) (.bo [] (.int x))
    refine ⟨ρ, ?_⟩
    by_cases h1 : 0 ≤ x <;> by_cases h2 : x ≤ ab <;> simp [loopS_cons, b_p_is_way_1_ev, wayGo, h1, h2]
    exact h
theorem is_way_ok (l : List Int) : f_p_is_way [.tup (l.map .int)] = .ok (.own, .bl (isWay l)) := by
  obtain ⟨ρ, h⟩ := is_way_loop l (.tup (l.map .int)) 0 .no
  unfold isWay
  by_cases h1 : 1 ≤ l.length
  · by_cases h2 : l.length ≤ 9
    · have h1' : (1 : Int) ≤ l.length := by omega
      have h2' : (l.length : Int) ≤ 9 := by omega
      cases h3 : wayGo 0 l <;> simp [f_p_is_way, mkF_ev, b_p_is_way, h, h1, h2, h1', h2', h3]
    · have h1' : (1 : Int) ≤ l.length := by omega
      have h2' : ¬ (l.length : Int) ≤ 9 := by omega
      simp [f_p_is_way, mkF_ev, b_p_is_way, h1, h2, h1', h2']
  · have h1' : ¬ (1 : Int) ≤ l.length := by omega
    simp [f_p_is_way, mkF_ev, b_p_is_way, h1, h1']
/-! row_ok -/
def rowGo : Int → List Int → Bool
  | _, [] => true
  | m, x :: xs => decide (0 ≤ x) && decide (x ≤ m + 1) && rowGo (max m x) xs
theorem rowGo_way (l : List Int) : ∀ m, rowGo m l = wayGo (m + 1) l := by
  induction l with
  | nil => intro m; rfl
  | cons x l ih => intro m; simp only [rowGo, wayGo, ih]; rw [show max (m + 1) (x + 1) = max m x + 1 by omega]
theorem rowGo_all (l : List Int) : ∀ m, rowGo m l = (List.range l.length).all fun i => decide (0 ≤ l.getD i 0) && decide (l.getD i 0 ≤ (l.take i).foldl max m + 1) := by
  induction l with
  | nil => intro m; rfl
  | cons x l ih =>
    intro m
    rw [List.length_cons, List.range_succ_eq_map, List.all_cons, List.all_map]
    simp only [rowGo, ih, Function.comp_def]
    simp
theorem maxL_take (x : Int) (l : List Int) (i : Nat) : maxL ((x :: l).take (i + 1)) = some ((l.take i).foldl max x) := by simp [maxL]
theorem row_ok_ok (l : List Int) : f_l_row_ok [.tup (l.map .int)] = .ok (.own, .bl (isWay l)) := by
  unfold isWay
  by_cases h1 : 1 ≤ l.length
  · by_cases h2 : l.length ≤ 9
    · cases l with
      | nil => simp at h1
      | cons x xs =>
        simp only [List.length_cons] at h1 h2
        have c1 : (1 : Int) ≤ (xs.length : Int) + 1 := by omega
        have c2 : ¬ (9 : Int) < (xs.length : Int) + 1 := by omega
        by_cases hx : x = 0
        · subst hx
          have rg : rgOk ((xs.length : Int) + 1) = true := rgOk_of (by omega) (by omega)
          have rg1 : rgOk 1 = true := rgOk_of (by omega) (by omega)
          have e := lcE_noL (it := rng2I (conE (.int 1)) (bltE bLen (consA (locE 0) nilA))) (own := [1]) (tg := tgN 1) (elt := e_l_row_ok_1) (ρ := [.bo [] (.tup ((0 :: xs).map D.int)), .no]) (k := .own) (l := List.range xs.length) (f := fun i => .int (1 + (i : Int)))
            (h := fun i => .bl (decide (0 ≤ xs.getD i 0) && decide (xs.getD i 0 ≤ (xs.take i).foldl max 0 + 1))) (by simp [rg, rg1, rng]) (by simp) (by simp; omega) (fun i hi => ⟨_, .own, rfl, ?_, rfl⟩)
          · have z := rowGo_all xs 0
            rw [rowGo_way] at z
            simp only [List.map_cons] at e
            simp at z
            have h2' : xs.length ≤ 8 := by omega
            simp [f_l_row_ok, mkF_ev, b_l_row_ok, e, wayGo, c1, c2, z, h2', Function.comp_def, show max (0 : Int) 1 = 1 by decide]
          · have hi := List.mem_range.mp hi
            have e1 : atI (D.int 0 :: xs.map D.int) (1 + (i : Int)) = some (.int (xs.getD i 0)) := by
              rw [atI_nn _ _ (by omega), show (1 + (i : Int)).toNat = i + 1 by omega]
              simp [List.getD, hi]
            have e2 : cutD (D.int 0 :: xs.map D.int) none (some (1 + (i : Int))) = ((0 :: xs).take (i + 1)).map D.int := by
              rw [cut_to _ _ (by omega), show (1 + (i : Int)).toNat = i + 1 by omega]
              simp
            have e3 : intsD (((0 :: xs).take (i + 1)).map D.int) = some ((0 :: xs).take (i + 1)) := intsD_map _
            generalize hq : (0 :: xs).take (i + 1) = q at e2 e3
            have e4 : maxL q = some ((xs.take i).foldl max 0) := by rw [← hq]; exact maxL_take 0 xs i
            by_cases h0 : 0 ≤ xs[i]?.getD 0 <;> simp [e_l_row_ok_1_ev, e1, e2, e3, e4, h0]
        · simp [f_l_row_ok, mkF_ev, b_l_row_ok, hx, wayGo, c1, c2]
          intro _ h3 h4
          omega
    · have c1 : (1 : Int) ≤ (l.length : Int) := by omega
      have c2 : (9 : Int) < (l.length : Int) := by omega
      simp [f_l_row_ok, mkF_ev, b_l_row_ok, c1, c2, h2]
  · have c1 : ¬ (1 : Int) ≤ (l.length : Int) := by omega
    simp [f_l_row_ok, mkF_ev, b_l_row_ok, c1, h1]
end Cz
set_option maxHeartbeats 1000000
/-! Lb4: the law's way. -/
namespace Cz
open PySem PySem.Spec PyProof.Rows L2
theorem foldl_max_ge (l : List Int) : ∀ m : Int, m ≤ l.foldl max m := by
  induction l with
  | nil => intro m; exact Int.le_refl _
  | cons x l ih => intro m; exact Int.le_trans (Int.le_max_left _ _) (ih _)
theorem way_loop (ls : List Int) (hl : ∀ x ∈ ls, 0 ≤ x) (a0 a1 a2 : D) (cap : Int) (hc : 1 ≤ cap) : ∀ (acc : List Int) (s5 : Sl), acc.length + ls.length < 1000000 →
    ∃ (s5' : Sl) (row : List Int), loopS (tgN 5) b_l_way_2 (ls.map D.int) [.bo [] a0, .bo [] a1, .ow a2, .bo [] (.int cap), .ow (.lst (acc.map .int)), s5, .no] =
      .nx [.bo [] a0, .bo [] a1, .ow a2, .bo [] (.int cap), .ow (.lst ((acc ++ row).map .int)), s5', .no] ∧ wayGo (wayAb 0 acc) row = true ∧ row.length = ls.length := by
  induction ls with
  | nil => intro acc s5 _; exact ⟨s5, [], by simp, rfl, rfl⟩
  | cons x ls ih =>
    intro acc s5 h
    simp only [List.length_cons] at h
    have hx := hl x List.mem_cons_self
    have hab : wayAb 0 acc = acc.foldl max (-1) + 1 := by have := wayAb_max acc (-1); simpa using this
    have hge := foldl_max_ge acc (-1)
    obtain ⟨m, hm⟩ : ∃ m, m = acc.foldl max (-1) := ⟨_, rfl⟩
    rw [← hm] at hab hge
    have hp : 0 < m + 2 := by omega
    obtain ⟨v, hv⟩ : ∃ v, v = min (cap - 1) (x % (m + 2)) := ⟨_, rfl⟩
    have b1 := Int.emod_nonneg x (show m + 2 ≠ 0 by omega)
    have b2 := Int.emod_lt_of_pos x hp
    have v1 : 0 ≤ v := by omega
    have v2 : v ≤ m + 1 := by omega
    obtain ⟨s5', row, e, g, r⟩ := ih (fun y hy => hl y (List.mem_cons_of_mem _ hy)) (acc ++ [v]) (.bo [] (.int x)) (by simp; omega)
    have k1 : acc.length < 16777216 := by omega
    have k2 : 1 + acc.length ≤ 16777216 := by omega
    refine ⟨s5', v :: row, ?_, ?_, by simp [r]⟩
    · rw [List.map_cons, loopS_cons]
      simp [b_l_way_2_ev, k1, k2, ← hm, hp, ← hv]
      simpa using e
    · rw [wayAb_app] at g
      simp only [wayGo, hab, decide_eq_true v1, decide_eq_true v2, Bool.true_and]
      rw [← hab]
      exact g
theorem way_ok (c : Int) (n : Nat) (hn : n ≤ 1000) : ∃ row : List Int, f_l_way [.int c, .int n] = .ok (.own, .tup (row.map .int)) ∧ wayGo 0 row = true ∧ row.length = n := by
  have rg : rgOk (n : Int) = true := rgOk_of (by omega) (by omega)
  have e1 := lcE_noL (it := rng1I (locE 1)) (own := [6]) (tg := tgN 6) (elt := e_l_way_1) (ρ := [.bo [] (.int c), .bo [] (.int n), .no, .no, .no, .no, .no]) (k := .own) (l := List.range n) (f := fun i => .int (0 + (i : Int))) (h := fun i => .int ((0 + (i : Int)) + 1))
    (by simp [rg, rng]) (by simp) (by simp; omega) (fun i hi => ⟨_, .own, rfl, by simp [e_l_way_1_ev], rfl⟩)
  obtain ⟨row, e2, r2⟩ := draw_ok c (4 :: (List.range n).map fun (i : Nat) => (0 + (i : Int)) + 1) (by
    intro l hl
    rcases List.mem_cons.mp hl with h | h
    · subst h; exact .of (by decide) (by decide)
    · obtain ⟨i, hi, e⟩ := List.mem_map.mp h
      have := List.mem_range.mp hi
      subst e; exact .of (by omega) (by omega)) (by simp; omega)
  cases r2 with
  | @cons _ x0 _ xs h1 h2 r3 =>
    have hl := r3.len
    have hpos : ∀ x ∈ xs, 0 ≤ x := fun x hx => by
      obtain ⟨i, hi, e⟩ := List.getElem_of_mem hx
      have hi' : i < ((List.range n).map fun (i : Nat) => (0 + (i : Int)) + 1).length := by rw [← hl]; exact hi
      obtain ⟨y, h3, h4, _⟩ := r3.get (i := i) (l := _) (List.getElem?_eq_getElem hi')
      rw [List.getElem?_eq_getElem hi, e] at h3
      cases h3; exact h4
    obtain ⟨cap, hcap, hc1⟩ : ∃ cap : Int, atI [D.int 9, D.int 2, D.int 3, D.int 9] x0 = some (.int cap) ∧ 1 ≤ cap := by
      rcases (show x0 = 0 ∨ x0 = 1 ∨ x0 = 2 ∨ x0 = 3 by omega) with h | h | h | h <;> subst h
      · exact ⟨9, rfl, by decide⟩
      · exact ⟨2, rfl, by decide⟩
      · exact ⟨3, rfl, by decide⟩
      · exact ⟨9, rfl, by decide⟩
    simp at hl
    obtain ⟨s5', row', e3, g, r4⟩ := way_loop xs hpos (.int c) (.int n) (.lst ((x0 :: xs).map .int)) cap hc1 [] .no (by simp; omega)
    refine ⟨row', ?_, g, by omega⟩
    simp [Function.comp_def] at e1 e2 e3
    have e4 : cutD (D.int x0 :: xs.map D.int) (some 1) none = xs.map D.int := by rw [cut_from _ _ (by decide)]; rfl
    have k1 : 1 + n ≤ 16777216 := by omega
    simp [f_l_way, mkF_ev, b_l_way, e1, e2, hcap, e4, e3, k1]
end Cz
set_option maxHeartbeats 1000000
namespace Cz
open PySem PySem.Spec PyProof.Rows L2
theorem some_row_ok (c : Int) (j : Nat) (hc : Cel j c) (hj : j ≤ 1000) : ∃ l : List Int, f_l_some_row [.int c] = .ok (.own, .tup (l.map .int)) := by
  obtain ⟨cs, e1, hl, _⟩ := split_ok c j 2 0 hc (by omega) (by omega) (by omega)
  match cs, hl with
  | [y1, y2], _ =>
  obtain ⟨row, e2, r⟩ := draw_lit y1 [4, 9, 12, 9, 25, 12, 12, 12, 12, 12, 12, 12, 12, 12, 12, 12] (by decide) (by decide)
  cases r with
  | @cons _ x0 _ r0 a1 a2 r =>
  cases r with
  | @cons _ x1 _ r1 b1 b2 r =>
  cases r with
  | @cons _ x2 _ r2 c1 c2 r =>
  cases r with
  | @cons _ x3 _ r3 d1 d2 r =>
  cases r with
  | @cons _ x4 _ r4 f1 f2 r =>
  have hl4 := r.len
  have rg : rgOk 11 = true := rgOk_of (by decide) (by decide)
  have e3 := lcE_noL (it := rng1I (conE (.int 11))) (own := [8]) (tg := tgN 8) (elt := e_l_some_row_1) (k := .own) (l := List.range 11) (f := fun i => .int (0 + (i : Int))) (h := fun i => .int 12)
    (ρ := [.bo [] (.int c), .bo [] (.int y1), .bo [] (.int y2), .no, .no, .no, .no, .no, .no, .no]) (by simp [rg, rng]) (by simp) (by simp) (fun i hi => ⟨_, .own, rfl, rfl, rfl⟩)
  obtain ⟨w, e4, g, hw⟩ := way_ok y2 (x1 + 1).toNat (by omega)
  rw [show (((x1 + 1).toNat : Nat) : Int) = x1 + 1 by omega] at e4
  have hr : List.range 11 = [0, 1, 2, 3, 4, 5, 6, 7, 8, 9, 10] := rfl
  simp at e1 e2
  simp [hr] at e3
  rcases (show x0 = 0 ∨ x0 = 1 ∨ x0 = 2 ∨ x0 = 3 by omega) with h | h | h | h
  · subst h
    have e5 : cutD (D.int 0 :: D.int x1 :: D.int x2 :: D.int x3 :: D.int x4 :: r4.map D.int) (some 5) (some (5 + x2)) = (((0 :: x1 :: x2 :: x3 :: x4 :: r4).take (5 + x2).toNat).drop 5).map D.int := by
      rw [cut_both _ _ _ (by omega) (by omega)]; simp
    generalize hq : ((0 :: x1 :: x2 :: x3 :: x4 :: r4).take (5 + x2).toNat).drop 5 = q at e5
    have hq2 : q.length ≤ 100 := by
      rw [← hq]; simp; simp at hl4; omega
    have e6 := lcE_noL (it := seqI (slE (locE 3) (someO (conE (.int 5))) (someO (binE .Add (conE (.int 5)) (idxE (locE 3) (conE (.int 2))))))) (own := [9]) (tg := tgN 9) (elt := e_l_some_row_2) (k := .own) (l := q) (f := .int) (h := fun i => .int (i - 2))
      (ρ := [.bo [] (.int c), .bo [] (.int y1), .bo [] (.int y2), .ow (.lst (D.int 0 :: D.int x1 :: D.int x2 :: D.int x3 :: D.int x4 :: r4.map D.int)), .no, .no, .no, .no, .no, .no]) (by simp [e5]) (by simp) (by omega) (fun i hi => ⟨_, .own, rfl, by simp [e_l_some_row_2_ev], rfl⟩)
    exact ⟨q.map (· - 2), by simp [f_l_some_row, mkF_ev, b_l_some_row, e1, e2, e3, e6, Function.comp_def]⟩
  · subst h
    exact ⟨w, by simp [f_l_some_row, mkF_ev, b_l_some_row, e1, e2, e3, e4]⟩
  · subst h
    have hm : ∃ m : Int, maxL w = some m ∧ 0 ≤ m := by
      cases w with
      | nil => simp at hw; omega
      | cons a w' =>
        simp [wayGo] at g
        exact ⟨_, rfl, Int.le_trans g.1.1 (foldl_max_ge w' a)⟩
    obtain ⟨m, hm, hm0⟩ := hm
    have p3 : 0 < m + 3 := by omega
    have k1 : 1 ≤ 1 + x3 % 2 := by omega
    have k2 : 1 + x3 % 2 ≤ 1000 := by omega
    have k3 : w.length + (1 + x3 % 2).toNat ≤ 16777216 := by omega
    refine ⟨w ++ List.replicate (1 + x3 % 2).toNat (x4 % (m + 3)), ?_⟩
    simp [f_l_some_row, mkF_ev, b_l_some_row, e1, e2, e3, e4, hm, p3, k1, k2, k3]
    exact lk_noL (by simp)
  · subst h
    have hm : 0 < w.length := by omega
    obtain ⟨at', hat⟩ : ∃ a : Nat, (a : Int) = x3 % w.length ∧ a < w.length := ⟨(x3 % w.length).toNat, by have := Int.emod_nonneg x3 (show (w.length : Int) ≠ 0 by omega); have := Int.emod_lt_of_pos x3 (show (0 : Int) < w.length by omega); omega⟩
    have p1 : (0 : Int) < w.length := by omega
    have e7 : cutD (w.map D.int) none (some ((at' : Int) + 1)) = (w.map D.int).take (at' + 1) := by rw [cut_to _ _ (by omega)]; rfl
    have e8 : cutD (w.map D.int) none (some (at' : Int)) = (w.map D.int).take at' := by rw [cut_to _ _ (by omega)]; rfl
    have e9 : cutD (w.map D.int) (some ((at' : Int) + 1)) none = (w.map D.int).drop (at' + 1) := by rw [cut_from _ _ (by omega)]; rfl
    obtain ⟨mm, hmm⟩ : ∃ m, maxL (w.take (at' + 1)) = some m := by
      cases w with
      | nil => simp at hm
      | cons a w' => exact ⟨_, rfl⟩
    have p40 : powOk 10 40 = true := by decide
    have p40' : (0 : Int) < 10 ^ 40 := by decide +kernel
    obtain ⟨v, hv⟩ : ∃ v : Int, atI [D.int (x4 - 2), D.int (mm + 1), D.int (c % 10 ^ 40), D.int (-1)] (x2 % 4) = some (.int v) := by
      rcases (show x2 % 4 = 0 ∨ x2 % 4 = 1 ∨ x2 % 4 = 2 ∨ x2 % 4 = 3 by omega) with h | h | h | h <;> rw [h]
      · exact ⟨_, rfl⟩
      · exact ⟨_, rfl⟩
      · exact ⟨_, rfl⟩
      · exact ⟨_, rfl⟩
    have k1 : min at' w.length + 1 ≤ 16777216 := by omega
    have k2 : min at' w.length + 1 + (w.length - (at' + 1)) ≤ 16777216 := by omega
    refine ⟨w.take at' ++ [v] ++ w.drop (at' + 1), ?_⟩
    simp [f_l_some_row, mkF_ev, b_l_some_row, e1, e2, e3, e4, hm, ← hat.1, e7, e8, e9, hmm, p40, hv, k1, k2, -Int.reducePow]
    rw [if_pos p40', lk_noL (by simp)]
theorem law_ok_k01 : ∀ ns : List Int, ns.length ≤ 63 → (∀ z ∈ ns, Builtin.Int.intBits z ≤ 1048576) → f_l_law_k01 [.scr (ns.map D.int)] = .ok (.own, .bl true) := by
  intro ns hl hb
  have hlen : ns.length ≤ 16777216 := by omega
  have loop : ∀ (ks : List Nat), (∀ k ∈ ks, k < 1000) → ∀ s1 s2 s3 : Sl, (∀ d, s1 ≠ .ow d) → ∃ s1' s2' s3', loopS (tgN 1) b_l_law_k01_1 (ks.map fun (i : Nat) => .int (i : Int)) [.bo [] (.scr (ns.map D.int)), s1, s2, s3] = .nx [.bo [] (.scr (ns.map D.int)), s1', s2', s3'] := by
    intro ks
    induction ks with
    | nil => intro _ s1 s2 s3 _; exact ⟨_, _, _, rfl⟩
    | cons k ks ih =>
      intro hk s1 s2 s3 h1
      have hk0 := hk k List.mem_cons_self
      obtain ⟨l, e1⟩ := some_row_ok _ 0 (cell_cel ns k (by omega) (by omega) hb) (by omega)
      have e2 := cell_ok ns k (by omega) (by omega)
      obtain ⟨a, b, c, e⟩ := ih (fun k' h' => hk k' (List.mem_cons_of_mem _ h')) (.bo [] (.int k)) (.ow (.tup (l.map .int))) (.bo [] (.bl (isWay l))) (by intro d z; cases z)
      refine ⟨a, b, c, ?_⟩
      have kb : kitB "bool" "bool" = some true := by decide +kernel
      rw [List.map_cons, loopS_cons]
      simp [b_l_law_k01_1_ev, e2, e1, is_way_ok, row_ok_ok, tyD, kb]
      exact e
  have ht : 0 ≤ turns ns 2 ∧ turns ns 2 ≤ 63 := by unfold turns; omega
  have rg : rgOk (turns ns 2) = true := rgOk_of (by omega) (by omega)
  obtain ⟨a, b, c, e⟩ := loop (List.range (turns ns 2).toNat) (fun k hk => by have := List.mem_range.mp hk; omega) .no .no .no (by intro d z; cases z)
  simp [f_l_law_k01, mkF_ev, b_l_law_k01, many_ok, rg, rng, e]
end Cz
set_option maxHeartbeats 4000000
namespace Cz
open PySem PySem.Spec PyProof.Rows L2
def topS (i : Nat) : Stmt := PySem.Challenge.pw_censers_k01_rows_that_are_ways.main.body.getD i (.Pass ⟨0, 0, 0, 0⟩)
structure Gs (K : PySem.W.Frag) (mg : Str → Option Value) (CA : String → Addr) : Prop where
  g_GREATEST : ∃ t, mg "GREATEST" = some (.int 9 t)
  g_all : mg "all" = none
  g_bool : mg "bool" = none
  g_isinstance : mg "isinstance" = none
  g_len : mg "len" = none
  g_max : mg "max" = none
  g_min : mg "min" = none
  g_range : mg "range" = none
  g_sum : mg "sum" = none
  g_tuple : mg "tuple" = none
section
variable {P : Program} {w : World} {K : PySem.W.Frag} {mg : Str → Option Value} {base : Heap} {CA : String → Addr}
theorem sc_p_is_way : FnScope ["row", "above", "one"] ["row"] (defScope (topS 2)) := ⟨rfl, rfl, rfl, by decide +kernel, rfl, by decide +kernel, by decide +kernel⟩
theorem w_p_is_way (G : Gs K mg CA)  {f : Addr} {fd : FuncData} (F : FunD K "is_way" "is_way" (defArgs (topS 2)) (defBody (topS 2)) (defScope (topS 2)) [] [] f fd) : FnOk P w K mg base (L2.CX P w) 1 f fd ["row"] (spF K CA f_p_is_way 1) :=
  have sc := sc_p_is_way
  fn_ok (k := 0) (N := ["row", "above", "one"]) (ps := ["row"]) (body := b_p_is_way) F sc (fun cdv A outer s H E hr => by
    have hu := hu65 hr
    exact (ss_cons (s_if (t_not (t_chn hu e_int (e_blt cLen oLen G.g_len (by decide +kernel) (a_cons (e_loc 0) a_nil)) (e_gint G.g_GREATEST))) (ss_one (s_ret e_bl)) ss_nil)
    (ss_cons (s_set 1 sc.nd e_int)
    (ss_cons (s_for (passes_of rfl) rfl (i_seq (e_loc 0)) (g_nm 2 sc.nd) (ss_cons (s_if (t_not (t_chn hu e_int (e_loc 2) (e_loc 1))) (ss_one (s_ret e_bl)) ss_nil)
    (ss_one (s_set 1 sc.nd (e_blt (cMax rfl) oMax G.g_max (by decide +kernel) (a_cons (e_loc 1) (a_cons (e_bin (e_loc 2) e_int) a_nil)))))))
    (ss_one (s_ret e_bl)))))) (fun ds h => mkF_of h) (by decide)
theorem sc_l_draw : FnScope ["_law_cell_here", "_law_limits", "_law_rest", "_law_seed", "_law_row", "_law_limit"] ["_law_cell_here", "_law_limits"] (defScope (topS 4)) := ⟨rfl, rfl, rfl, by decide +kernel, rfl, by decide +kernel, by decide +kernel⟩
theorem w_l_draw (G : Gs K mg CA)  {f : Addr} {fd : FuncData} (F : FunD K "_law_draw" "_law_draw" (defArgs (topS 4)) (defBody (topS 4)) (defScope (topS 4)) [] [] f fd) : FnOk P w K mg base (L2.CX P w) 1 f fd ["_law_cell_here", "_law_limits"] (spF K CA f_l_draw 2) :=
  have sc := sc_l_draw
  fn_ok (k := 0) (N := ["_law_cell_here", "_law_limits", "_law_rest", "_law_seed", "_law_row", "_law_limit"]) (ps := ["_law_cell_here", "_law_limits"]) (body := b_l_draw) F sc (fun cdv A outer s H E hr => by
    have hu := hu65 hr
    exact (ss_cons (s_set 2 sc.nd (e_ite (t_cmp hu (e_loc 0) (e_bin e_int e_int)) (e_loc 0) e_int))
    (ss_cons (s_set 3 sc.nd (e_bin (e_bin (e_bin (e_bin (e_loc 0) e_int) e_int) e_int) e_int))
    (ss_cons (s_set 4 sc.nd (e_lst a_nil))
    (ss_cons (s_for (passes_of rfl) rfl (i_seq (e_loc 1)) (g_nm 5 sc.nd) (ss_cons (s_set 3 sc.nd (e_bin (e_bin (e_bin (e_bin (e_bin (e_loc 3) (e_loc 3)) e_int) (e_bin (e_loc 3) e_int)) e_int) e_int))
    (ss_cons (s_app 4 (e_ite (t_cmp hu (e_loc 2) e_int) (e_bin (e_loc 2) (e_loc 5)) (e_bin (e_bin (e_bin (e_loc 3) e_int) (e_bin (e_bin (e_loc 3) e_int) e_int)) (e_loc 5))))
    (ss_one (s_set 2 sc.nd (e_bin (e_loc 2) (e_loc 5)))))))
    (ss_one (s_retV 4))))))) (fun ds h => mkF_of h) (by decide)
theorem sc_l_cell : FnScope ["_law_script", "_law_k"] ["_law_script", "_law_k"] (defScope (topS 5)) := ⟨rfl, rfl, rfl, by decide +kernel, rfl, by decide +kernel, by decide +kernel⟩
theorem w_l_cell (G : Gs K mg CA)  {f : Addr} {fd : FuncData} (F : FunD K "_law_cell" "_law_cell" (defArgs (topS 5)) (defBody (topS 5)) (defScope (topS 5)) [] [] f fd) : FnOk P w K mg base (L2.CX P w) 1 f fd ["_law_script", "_law_k"] (spF K CA f_l_cell 2) :=
  have sc := sc_l_cell
  fn_ok (k := 0) (N := ["_law_script", "_law_k"]) (ps := ["_law_script", "_law_k"]) (body := b_l_cell) F sc (fun cdv A outer s H E hr => by
    have hu := hu65 hr
    exact (ss_cons (s_if (t_cmp hu (e_loc 1) (e_blt cLen oLen G.g_len (by decide +kernel) (a_cons (e_loc 0) a_nil))) (ss_one (s_ret (e_idx hu (e_loc 0) (e_loc 1)))) ss_nil)
    (ss_one (s_ret (e_bin (e_bin (e_bin (e_bin (e_blt (cr_sum rfl) oSum G.g_sum (by decide +kernel) (a_cons (e_loc 0) a_nil)) e_int) e_int) (e_bin (e_blt cLen oLen G.g_len (by decide +kernel) (a_cons (e_loc 0) a_nil)) e_int)) (e_bin (e_loc 1) e_int)))))) (fun ds h => mkF_of h) (by decide)
theorem sc_l_many : FnScope ["_law_script", "_law_few"] ["_law_script", "_law_few"] (defScope (topS 6)) := ⟨rfl, rfl, rfl, by decide +kernel, rfl, by decide +kernel, by decide +kernel⟩
theorem w_l_many (G : Gs K mg CA)  {f : Addr} {fd : FuncData} (F : FunD K "_law_many" "_law_many" (defArgs (topS 6)) (defBody (topS 6)) (defScope (topS 6)) [] [] f fd) : FnOk P w K mg base (L2.CX P w) 1 f fd ["_law_script", "_law_few"] (spF K CA f_l_many 2) :=
  have sc := sc_l_many
  fn_ok (k := 0) (N := ["_law_script", "_law_few"]) (ps := ["_law_script", "_law_few"]) (body := b_l_many) F sc (fun cdv A outer s H E hr => by
    have hu := hu65 hr
    exact (ss_one (s_ret (e_blt (cMax rfl) oMax G.g_max (by decide +kernel) (a_cons (e_loc 1) (a_cons (e_blt (cMin rfl) oMin G.g_min (by decide +kernel) (a_cons (e_blt cLen oLen G.g_len (by decide +kernel) (a_cons (e_loc 0) a_nil)) (a_cons e_int a_nil))) a_nil)))))) (fun ds h => mkF_of h) (by decide)
theorem sc_l_row_ok : FnScope ["_law_row", "_law_k"] ["_law_row"] (defScope (topS 7)) := ⟨rfl, rfl, rfl, by decide +kernel, rfl, by decide +kernel, by decide +kernel⟩
theorem w_l_row_ok (G : Gs K mg CA)  {f : Addr} {fd : FuncData} (F : FunD K "_law_row_ok" "_law_row_ok" (defArgs (topS 7)) (defBody (topS 7)) (defScope (topS 7)) [] [] f fd) : FnOk P w K mg base (L2.CX P w) 1 f fd ["_law_row"] (spF K CA f_l_row_ok 1) :=
  have sc := sc_l_row_ok
  fn_ok (k := 0) (N := ["_law_row", "_law_k"]) (ps := ["_law_row"]) (body := b_l_row_ok) F sc (fun cdv A outer s H E hr => by
    have hu := hu65 hr
    exact (ss_cons (s_if (t_pw (tw_or (t_not (t_chn hu e_int (e_blt cLen oLen G.g_len (by decide +kernel) (a_cons (e_loc 0) a_nil)) e_int)) (tw_or1 (t_cmp hu (e_idx hu (e_loc 0) e_int) e_int)))) (ss_one (s_ret e_bl)) ss_nil)
    (ss_one (s_ret (e_blt (cr_all rfl) oAll G.g_all (by decide +kernel) (a_cons (e_lc (own := [("_law_k", 1)]) rfl sc.nd (i_rng2 G.g_range e_int (e_blt cLen oLen G.g_len (by decide +kernel) (a_cons (e_loc 0) a_nil))) (blkOk_by (N := ["_law_row", "_law_k"]) (sc := (defScope (topS 7))) (by decide +kernel)) (fun _ _ _ _ _ => (g_nm 1 sc.nd)) (by decide) (fun _ _ _ _ _ => ts_nil) (fun _ _ _ _ _ => (e_chn hu e_int (e_idx hu (e_loc 0) (e_loc 1)) (e_bin (e_blt (cMax rfl) oMax G.g_max (by decide +kernel) (a_cons (e_sl (e_loc 0) o_none (o_some (e_loc 1))) a_nil)) e_int)))) a_nil)))))) (fun ds h => mkF_of h) (by decide)
theorem sc_l_way : FnScope ["_law_cell_here", "_law_size", "_law_row", "_law_cap", "_law_way_here", "_law_one", "_law_k"] ["_law_cell_here", "_law_size"] (defScope (topS 8)) := ⟨rfl, rfl, rfl, by decide +kernel, rfl, by decide +kernel, by decide +kernel⟩
theorem w_l_way (G : Gs K mg CA) (c_l_draw : FnG P w K mg base CA f_l_draw 1 "_law_draw" []) {f : Addr} {fd : FuncData} (F : FunD K "_law_way" "_law_way" (defArgs (topS 8)) (defBody (topS 8)) (defScope (topS 8)) [] [] f fd) : FnOk P w K mg base (L2.CX P w) 2 f fd ["_law_cell_here", "_law_size"] (spF K CA f_l_way 2) :=
  have sc := sc_l_way
  fn_ok (k := 1) (N := ["_law_cell_here", "_law_size", "_law_row", "_law_cap", "_law_way_here", "_law_one", "_law_k"]) (ps := ["_law_cell_here", "_law_size"]) (body := b_l_way) F sc (fun cdv A outer s H E hr => by
    have hu := hu65 hr
    exact (ss_cons (s_set 2 sc.nd (e_call (takes_of rfl rfl rfl rfl) (hr.mono (by decide)) c_l_draw (a_cons (e_loc 0) (a_cons (e_bin (e_lst (a_cons e_int a_nil)) (e_lc (own := [("_law_k", 6)]) rfl sc.nd (i_rng1 G.g_range (e_loc 1)) (blkOk_by (N := ["_law_cell_here", "_law_size", "_law_row", "_law_cap", "_law_way_here", "_law_one", "_law_k"]) (sc := (defScope (topS 8))) (by decide +kernel)) (fun _ _ _ _ _ => (g_nm 6 sc.nd)) (by decide) (fun _ _ _ _ _ => ts_nil) (fun _ _ _ _ _ => (e_bin (e_loc 6) e_int)))) a_nil))))
    (ss_cons (s_set 3 sc.nd (e_idx hu (e_lst (a_cons e_int (a_cons e_int (a_cons e_int (a_cons e_int a_nil))))) (e_idx hu (e_loc 2) e_int)))
    (ss_cons (s_set 4 sc.nd (e_lst a_nil))
    (ss_cons (s_for (passes_of rfl) rfl (i_seq (e_sl (e_loc 2) (o_some e_int) o_none)) (g_nm 5 sc.nd) (ss_one (s_app 4 (e_blt (cMin rfl) oMin G.g_min (by decide +kernel) (a_cons (e_bin (e_loc 3) e_int) (a_cons (e_bin (e_loc 5) (e_bin (e_blt (cMax rfl) oMax G.g_max (by decide +kernel) (a_cons (e_bin (e_lst (a_cons (e_neg e_int) a_nil)) (e_loc 4)) a_nil)) e_int)) a_nil))))))
    (ss_one (s_ret (e_bty call_tuple_of oTup G.g_tuple (by decide +kernel) (a_cons (e_loc 4) a_nil))))))))) (fun ds h => mkF_of h) (by decide)
theorem sc_l_split : FnScope ["_law_cell_here", "_law_parts", "_law_wide", "_law_side", "_law_size", "_law_found", "_law_big", "_law_k"] ["_law_cell_here", "_law_parts", "_law_wide"] (defScope (topS 9)) := ⟨rfl, rfl, rfl, by decide +kernel, rfl, by decide +kernel, by decide +kernel⟩
theorem w_l_split (G : Gs K mg CA)  {f : Addr} {fd : FuncData} (F : FunD K "_law_split" "_law_split" (defArgs (topS 9)) (defBody (topS 9)) (defScope (topS 9)) [.int 0] [] f fd) : FnOk P w K mg base (L2.CX P w) 1 f fd ["_law_cell_here", "_law_parts", "_law_wide"] (spF K CA f_l_split 3) :=
  have sc := sc_l_split
  fn_ok (k := 0) (N := ["_law_cell_here", "_law_parts", "_law_wide", "_law_side", "_law_size", "_law_found", "_law_big", "_law_k"]) (ps := ["_law_cell_here", "_law_parts", "_law_wide"]) (body := b_l_split) F sc (fun cdv A outer s H E hr => by
    have hu := hu65 hr
    exact (ss_cons (s_set 3 sc.nd (e_bin (e_bin e_int e_int) (e_bin e_int e_int)))
    (ss_cons (s_set 4 sc.nd (e_idx hu (e_lst (a_cons (e_bin e_int e_int) (a_cons (e_loc 3) (a_cons (e_bin (e_bin (e_bin (e_loc 3) (e_loc 3)) (e_loc 3)) (e_loc 3)) a_nil)))) (e_loc 2)))
    (ss_cons (s_set 5 sc.nd (e_lst a_nil))
    (ss_cons (s_set 6 sc.nd (e_cmp hu (e_loc 0) (e_bin e_int e_int)))
    (ss_cons (s_for (passes_of rfl) rfl (i_rng1 G.g_range (e_loc 1)) (g_nm 7 sc.nd) (ss_one (s_if (t_val (e_loc 6)) (ss_cons (s_app 5 (e_bin (e_bin e_int e_int) (e_bin (e_loc 0) (e_loc 4))))
    (ss_one (s_set 0 sc.nd (e_bin (e_loc 0) (e_loc 4))))) (ss_one (s_app 5 (e_bin (e_bin (e_loc 0) (e_bin (e_bin e_int (e_loc 7)) e_int)) (e_bin e_int (e_loc 7))))))))
    (ss_one (s_retV 5)))))))) (fun ds h => mkF_of h) (by decide)
theorem sc_l_some_row : FnScope ["_law_cell_here", "_law_first", "_law_second", "_law_row", "_law_way_here", "_law_at", "_law_near", "_law_other", "_law_k", "_law_one"] ["_law_cell_here"] (defScope (topS 10)) := ⟨rfl, rfl, rfl, by decide +kernel, rfl, by decide +kernel, by decide +kernel⟩
theorem w_l_some_row (G : Gs K mg CA) (c_l_split_1 : FnG P w K mg base CA f_l_split 1 "_law_split" [.int 0]) (c_l_draw : FnG P w K mg base CA f_l_draw 1 "_law_draw" []) (c_l_way : FnG P w K mg base CA f_l_way 2 "_law_way" []) {f : Addr} {fd : FuncData} (F : FunD K "_law_some_row" "_law_some_row" (defArgs (topS 10)) (defBody (topS 10)) (defScope (topS 10)) [] [] f fd) : FnOk P w K mg base (L2.CX P w) 3 f fd ["_law_cell_here"] (spF K CA f_l_some_row 1) :=
  have sc := sc_l_some_row
  fn_ok (k := 2) (N := ["_law_cell_here", "_law_first", "_law_second", "_law_row", "_law_way_here", "_law_at", "_law_near", "_law_other", "_law_k", "_law_one"]) (ps := ["_law_cell_here"]) (body := b_l_some_row) F sc (fun cdv A outer s H E hr => by
    have hu := hu65 hr
    exact (ss_cons (s_asg (e_call (takes_of rfl rfl rfl rfl) (hr.mono (by decide)) c_l_split_1 (a_cons (e_loc 0) (a_cons e_int a_nil))) (g_tup rfl (tgLen_cons (tgLen_cons tgLen_nil)) (gs_cons (g_nm 1 sc.nd) (gs_cons (g_nm 2 sc.nd) gs_nil))))
    (ss_cons (s_set 3 sc.nd (e_call (takes_of rfl rfl rfl rfl) (hr.mono (by decide)) c_l_draw (a_cons (e_loc 1) (a_cons (e_bin (e_lst (a_cons e_int (a_cons e_int (a_cons e_int (a_cons e_int (a_cons e_int a_nil)))))) (e_lc (own := [("_law_k", 8)]) rfl sc.nd (i_rng1 G.g_range e_int) (blkOk_by (N := ["_law_cell_here", "_law_first", "_law_second", "_law_row", "_law_way_here", "_law_at", "_law_near", "_law_other", "_law_k", "_law_one"]) (sc := (defScope (topS 10))) (by decide +kernel)) (fun _ _ _ _ _ => (g_nm 8 sc.nd)) (by decide) (fun _ _ _ _ _ => ts_nil) (fun _ _ _ _ _ => e_int))) a_nil))))
    (ss_cons (s_if (t_cmp hu (e_idx hu (e_loc 3) e_int) e_int) (ss_one (s_ret (e_bty call_tuple_of oTup G.g_tuple (by decide +kernel) (a_cons (e_lc (own := [("_law_one", 9)]) rfl sc.nd (i_seq (e_sl (e_loc 3) (o_some e_int) (o_some (e_bin e_int (e_idx hu (e_loc 3) e_int))))) (blkOk_by (N := ["_law_cell_here", "_law_first", "_law_second", "_law_row", "_law_way_here", "_law_at", "_law_near", "_law_other", "_law_k", "_law_one"]) (sc := (defScope (topS 10))) (by decide +kernel)) (fun _ _ _ _ _ => (g_nm 9 sc.nd)) (by decide) (fun _ _ _ _ _ => ts_nil) (fun _ _ _ _ _ => (e_bin (e_loc 9) e_int))) a_nil)))) ss_nil)
    (ss_cons (s_set 4 sc.nd (e_call (takes_of rfl rfl rfl rfl) (hr.mono (by decide)) c_l_way (a_cons (e_loc 2) (a_cons (e_bin (e_idx hu (e_loc 3) e_int) e_int) a_nil))))
    (ss_cons (s_if (t_cmp hu (e_idx hu (e_loc 3) e_int) e_int) (ss_one (s_retV 4)) ss_nil)
    (ss_cons (s_if (t_cmp hu (e_idx hu (e_loc 3) e_int) e_int) (ss_one (s_ret (e_bin (e_loc 4) (e_bin (e_tup (a_cons (e_bin (e_idx hu (e_loc 3) e_int) (e_bin (e_blt (cMax rfl) oMax G.g_max (by decide +kernel) (a_cons (e_loc 4) a_nil)) e_int)) a_nil)) (e_bin e_int (e_bin (e_idx hu (e_loc 3) e_int) e_int)))))) ss_nil)
    (ss_cons (s_set 5 sc.nd (e_bin (e_idx hu (e_loc 3) e_int) (e_blt cLen oLen G.g_len (by decide +kernel) (a_cons (e_loc 4) a_nil))))
    (ss_cons (s_set 6 sc.nd (e_bin (e_blt (cMax rfl) oMax G.g_max (by decide +kernel) (a_cons (e_sl (e_loc 4) o_none (o_some (e_bin (e_loc 5) e_int))) a_nil)) e_int))
    (ss_cons (s_set 7 sc.nd (e_idx hu (e_lst (a_cons (e_bin (e_idx hu (e_loc 3) e_int) e_int) (a_cons (e_loc 6) (a_cons (e_bin (e_loc 0) (e_bin e_int e_int)) (a_cons (e_neg e_int) a_nil))))) (e_bin (e_idx hu (e_loc 3) e_int) e_int)))
    (ss_one (s_ret (e_bin (e_bin (e_sl (e_loc 4) o_none (o_some (e_loc 5))) (e_tup (a_cons (e_loc 7) a_nil))) (e_sl (e_loc 4) (o_some (e_bin (e_loc 5) e_int)) o_none)))))))))))))) (fun ds h => mkF_of h) (by decide)
theorem sc_l_law_k01 : FnScope ["_law_script", "_law_k", "_law_row", "_law_found"] ["_law_script"] (defScope (topS 11)) := ⟨rfl, rfl, rfl, by decide +kernel, rfl, by decide +kernel, by decide +kernel⟩
theorem w_l_law_k01 (G : Gs K mg CA) (c_l_many : FnG P w K mg base CA f_l_many 1 "_law_many" []) (c_l_cell : FnG P w K mg base CA f_l_cell 1 "_law_cell" []) (c_l_some_row : FnG P w K mg base CA f_l_some_row 3 "_law_some_row" []) (c_p_is_way : FnG P w K mg base CA f_p_is_way 1 "is_way" []) (c_l_row_ok : FnG P w K mg base CA f_l_row_ok 1 "_law_row_ok" []) {f : Addr} {fd : FuncData} (F : FunD K "law" "law" (defArgs (topS 11)) (defBody (topS 11)) (defScope (topS 11)) [] [] f fd) : FnOk P w K mg base (L2.CX P w) 4 f fd ["_law_script"] (spF K CA f_l_law_k01 1) :=
  have sc := sc_l_law_k01
  fn_ok (k := 3) (N := ["_law_script", "_law_k", "_law_row", "_law_found"]) (ps := ["_law_script"]) (body := b_l_law_k01) F sc (fun cdv A outer s H E hr => by
    have hu := hu65 hr
    exact (ss_cons (s_for (passes_of rfl) rfl (i_rng1 G.g_range (e_call (takes_of rfl rfl rfl rfl) (hr.mono (by decide)) c_l_many (a_cons (e_loc 0) (a_cons e_int a_nil)))) (g_nm 1 sc.nd) (ss_cons (s_set 2 sc.nd (e_call (takes_of rfl rfl rfl rfl) (hr.mono (by decide)) c_l_some_row (a_cons (e_call (takes_of rfl rfl rfl rfl) (hr.mono (by decide)) c_l_cell (a_cons (e_loc 0) (a_cons (e_loc 1) a_nil))) a_nil)))
    (ss_cons (s_set 3 sc.nd (e_call (takes_of rfl rfl rfl rfl) (hr.mono (by decide)) c_p_is_way (a_cons (e_loc 2) a_nil)))
    (ss_one (s_if (t_pw (tw_or (t_not (t_val (e_isi (T := "bool") G.g_isinstance G.g_bool (by decide +kernel) (e_loc 3)))) (tw_or1 (t_cmp hu (e_loc 3) (e_call (takes_of rfl rfl rfl rfl) (hr.mono (by decide)) c_l_row_ok (a_cons (e_loc 2) a_nil)))))) (ss_one (s_ret e_bl)) ss_nil)))))
    (ss_one (s_ret e_bl)))) (fun ds h => mkF_of h) (by decide)
end
theorem all_mk {P : Program} {w : World} {K : PySem.W.Frag} {h : Heap} {mg : Str → Option Value} {fa f0 f1 f2 f3 f4 f5 f6 f7 f8 : Addr} {od0 an0 od1 an1 od2 an2 od3 an3 od4 an4 od5 an5 od6 an6 od7 an7 od8 an8 : Option Addr} {sl0 sl1 sl2 sl3 sl4 sl5 sl6 sl7 sl8 : Array (Option Value)} {oc0 kV0 dc0 pm0 cd0 ct0 oc1 kV1 dc1 pm1 cd1 ct1 oc2 kV2 dc2 pm2 cd2 ct2 oc3 kV3 dc3 pm3 cd3 ct3 oc4 kV4 dc4 pm4 cd4 ct4 oc5 kV5 dc5 pm5 cd5 ct5 oc6 kV6 dc6 pm6 cd6 ct6 oc7 kV7 dc7 pm7 cd7 ct7 oc8 kV8 dc8 pm8 cd8 ct8 : Value} {T6 : Addr} {ocT6 : Value} {odT6 : Option Addr} {nT6 : Nat} {slT6 : Array (Option Value)} {t6_0 : Tok} {tg_GREATEST : Tok} (X : K.In h) (G : h.Ns mainGlobals mg) (hfa : mg "law" = some (.ref fa))
    (a0 : PySem.W.nsIn K mainGlobals "is_way" = some (some (.ref f0)))
    (l0 : K.lookup f0 = some ⟨oc0, od0, .func (PySem.W.fnOf "is_way" "is_way" (defArgs (topS 2)) (defBody (topS 2)) (defScope (topS 2)) .none kV0 dc0 pm0 an0 cd0 ct0), sl0⟩)
    (c0 : PySem.W.codeIn K cd0 "is_way" = true)
    (k0 : PySem.W.keepIn K (.ref f0) = true)
    (a1 : PySem.W.nsIn K mainGlobals "_law_draw" = some (some (.ref f1)))
    (l1 : K.lookup f1 = some ⟨oc1, od1, .func (PySem.W.fnOf "_law_draw" "_law_draw" (defArgs (topS 4)) (defBody (topS 4)) (defScope (topS 4)) .none kV1 dc1 pm1 an1 cd1 ct1), sl1⟩)
    (c1 : PySem.W.codeIn K cd1 "_law_draw" = true)
    (k1 : PySem.W.keepIn K (.ref f1) = true)
    (a2 : PySem.W.nsIn K mainGlobals "_law_cell" = some (some (.ref f2)))
    (l2 : K.lookup f2 = some ⟨oc2, od2, .func (PySem.W.fnOf "_law_cell" "_law_cell" (defArgs (topS 5)) (defBody (topS 5)) (defScope (topS 5)) .none kV2 dc2 pm2 an2 cd2 ct2), sl2⟩)
    (c2 : PySem.W.codeIn K cd2 "_law_cell" = true)
    (k2 : PySem.W.keepIn K (.ref f2) = true)
    (a3 : PySem.W.nsIn K mainGlobals "_law_many" = some (some (.ref f3)))
    (l3 : K.lookup f3 = some ⟨oc3, od3, .func (PySem.W.fnOf "_law_many" "_law_many" (defArgs (topS 6)) (defBody (topS 6)) (defScope (topS 6)) .none kV3 dc3 pm3 an3 cd3 ct3), sl3⟩)
    (c3 : PySem.W.codeIn K cd3 "_law_many" = true)
    (k3 : PySem.W.keepIn K (.ref f3) = true)
    (a4 : PySem.W.nsIn K mainGlobals "_law_row_ok" = some (some (.ref f4)))
    (l4 : K.lookup f4 = some ⟨oc4, od4, .func (PySem.W.fnOf "_law_row_ok" "_law_row_ok" (defArgs (topS 7)) (defBody (topS 7)) (defScope (topS 7)) .none kV4 dc4 pm4 an4 cd4 ct4), sl4⟩)
    (c4 : PySem.W.codeIn K cd4 "_law_row_ok" = true)
    (k4 : PySem.W.keepIn K (.ref f4) = true)
    (a5 : PySem.W.nsIn K mainGlobals "_law_way" = some (some (.ref f5)))
    (l5 : K.lookup f5 = some ⟨oc5, od5, .func (PySem.W.fnOf "_law_way" "_law_way" (defArgs (topS 8)) (defBody (topS 8)) (defScope (topS 8)) .none kV5 dc5 pm5 an5 cd5 ct5), sl5⟩)
    (c5 : PySem.W.codeIn K cd5 "_law_way" = true)
    (k5 : PySem.W.keepIn K (.ref f5) = true)
    (a6 : PySem.W.nsIn K mainGlobals "_law_split" = some (some (.ref f6)))
    (l6 : K.lookup f6 = some ⟨oc6, od6, .func (PySem.W.fnOf "_law_split" "_law_split" (defArgs (topS 9)) (defBody (topS 9)) (defScope (topS 9)) (.ref T6) kV6 dc6 pm6 an6 cd6 ct6), sl6⟩)
    (m6 : K.lookup T6 = some ⟨ocT6, odT6, .seq #[.int 0 t6_0] nT6, slT6⟩)
    (c6 : PySem.W.codeIn K cd6 "_law_split" = true)
    (k6 : PySem.W.keepIn K (.ref f6) = true)
    (a7 : PySem.W.nsIn K mainGlobals "_law_some_row" = some (some (.ref f7)))
    (l7 : K.lookup f7 = some ⟨oc7, od7, .func (PySem.W.fnOf "_law_some_row" "_law_some_row" (defArgs (topS 10)) (defBody (topS 10)) (defScope (topS 10)) .none kV7 dc7 pm7 an7 cd7 ct7), sl7⟩)
    (c7 : PySem.W.codeIn K cd7 "_law_some_row" = true)
    (k7 : PySem.W.keepIn K (.ref f7) = true)
    (a8 : PySem.W.nsIn K mainGlobals "law" = some (some (.ref f8)))
    (l8 : K.lookup f8 = some ⟨oc8, od8, .func (PySem.W.fnOf "law" "law" (defArgs (topS 11)) (defBody (topS 11)) (defScope (topS 11)) .none kV8 dc8 pm8 an8 cd8 ct8), sl8⟩)
    (c8 : PySem.W.codeIn K cd8 "law" = true)
    (k8 : PySem.W.keepIn K (.ref f8) = true)
    (g_GREATEST : PySem.W.nsIn K mainGlobals "GREATEST" = some (some (.int 9 tg_GREATEST)))
    (g_all : PySem.W.nsIn K mainGlobals "all" = some none)
    (g_bool : PySem.W.nsIn K mainGlobals "bool" = some none)
    (g_isinstance : PySem.W.nsIn K mainGlobals "isinstance" = some none)
    (g_len : PySem.W.nsIn K mainGlobals "len" = some none)
    (g_max : PySem.W.nsIn K mainGlobals "max" = some none)
    (g_min : PySem.W.nsIn K mainGlobals "min" = some none)
    (g_range : PySem.W.nsIn K mainGlobals "range" = some none)
    (g_sum : PySem.W.nsIn K mainGlobals "sum" = some none)
    (g_tuple : PySem.W.nsIn K mainGlobals "tuple" = some none)
    (hlaw : ∀ ns : List Int, ns.length ≤ 63 → (∀ z ∈ ns, Builtin.Int.intBits z ≤ 1048576) → f_l_law_k01 [.scr (ns.map D.int)] = .ok (.own, .bl true)) :
    ∃ fd : FuncData, (∀ (s : Shared) (v : Value), BindsTo s fd ⟨[v], []⟩ [("_law_script", v)]) ∧ ∀ base : Heap, K.In base → base.Ns mainGlobals mg → FnOk P w K mg base (L2.CX P w) 4 fa fd ["_law_script"] (spLaw K) := by
  have e := hfa.symm.trans (PySem.W.mg_of X G a8)
  cases e
  have GG : Gs K mg (caOf mg) := { g_GREATEST := ⟨_, PySem.W.mg_of X G g_GREATEST⟩, g_all := PySem.W.mg_none_of X G g_all, g_bool := PySem.W.mg_none_of X G g_bool, g_isinstance := PySem.W.mg_none_of X G g_isinstance, g_len := PySem.W.mg_none_of X G g_len, g_max := PySem.W.mg_none_of X G g_max, g_min := PySem.W.mg_none_of X G g_min, g_range := PySem.W.mg_none_of X G g_range, g_sum := PySem.W.mg_none_of X G g_sum, g_tuple := PySem.W.mg_none_of X G g_tuple }
  have F0 := funD0 (x := "is_way") (qual := "is_way") (st := (topS 2)) l0 c0 k0
  have F1 := funD0 (x := "_law_draw") (qual := "_law_draw") (st := (topS 4)) l1 c1 k1
  have F2 := funD0 (x := "_law_cell") (qual := "_law_cell") (st := (topS 5)) l2 c2 k2
  have F3 := funD0 (x := "_law_many") (qual := "_law_many") (st := (topS 6)) l3 c3 k3
  have F4 := funD0 (x := "_law_row_ok") (qual := "_law_row_ok") (st := (topS 7)) l4 c4 k4
  have F5 := funD0 (x := "_law_way") (qual := "_law_way") (st := (topS 8)) l5 c5 k5
  have F6 := funD1 (x := "_law_split") (qual := "_law_split") (st := (topS 9)) (dvs := [.int 0]) (its := [.int 0 t6_0]) l6 c6 k6 m6 (.cons ⟨_, rfl⟩ .nil) (by decide)
  have F7 := funD0 (x := "_law_some_row") (qual := "_law_some_row") (st := (topS 10)) l7 c7 k7
  have F8 := funD0 (x := "law") (qual := "law") (st := (topS 11)) l8 c8 k8
  refine ⟨PySem.W.fnOf "law" "law" (defArgs (topS 11)) (defBody (topS 11)) (defScope (topS 11)) .none kV8 dc8 pm8 an8 cd8 ct8, fun s v => .of_eq rfl, fun base _ _ => ?_⟩
  have o0 := w_p_is_way (P := P) (w := w) (base := base) GG  F0
  have c_p_is_way := fn_g (base := base) (dvs := []) (dd := []) (PySem.W.mg_of X G a0) o0 F0.kp (F0.bindsN (ps := ["row"]) fun _ _ _ _ _ _ us hl => match us, hl with | [_], _ => rfl) .nil (fun _ => .nil) rfl
  have o1 := w_l_draw (P := P) (w := w) (base := base) GG  F1
  have c_l_draw := fn_g (base := base) (dvs := []) (dd := []) (PySem.W.mg_of X G a1) o1 F1.kp (F1.bindsN (ps := ["_law_cell_here", "_law_limits"]) fun _ _ _ _ _ _ us hl => match us, hl with | [_, _], _ => rfl) .nil (fun _ => .nil) rfl
  have o2 := w_l_cell (P := P) (w := w) (base := base) GG  F2
  have c_l_cell := fn_g (base := base) (dvs := []) (dd := []) (PySem.W.mg_of X G a2) o2 F2.kp (F2.bindsN (ps := ["_law_script", "_law_k"]) fun _ _ _ _ _ _ us hl => match us, hl with | [_, _], _ => rfl) .nil (fun _ => .nil) rfl
  have o3 := w_l_many (P := P) (w := w) (base := base) GG  F3
  have c_l_many := fn_g (base := base) (dvs := []) (dd := []) (PySem.W.mg_of X G a3) o3 F3.kp (F3.bindsN (ps := ["_law_script", "_law_few"]) fun _ _ _ _ _ _ us hl => match us, hl with | [_, _], _ => rfl) .nil (fun _ => .nil) rfl
  have o4 := w_l_row_ok (P := P) (w := w) (base := base) GG  F4
  have c_l_row_ok := fn_g (base := base) (dvs := []) (dd := []) (PySem.W.mg_of X G a4) o4 F4.kp (F4.bindsN (ps := ["_law_row"]) fun _ _ _ _ _ _ us hl => match us, hl with | [_], _ => rfl) .nil (fun _ => .nil) rfl
  have o6 := w_l_split (P := P) (w := w) (base := base) GG  F6
  obtain ⟨ds6_1, vv6_1, bb6_1⟩ := F6.binds1 (ps := ["_law_cell_here", "_law_parts", "_law_wide"]) 2 0 (by decide) rfl fun _ _ _ _ _ _ _ us its h1 h2 => match us, its, h1, h2 with | [_, _], [_], _, _ => ⟨_, rfl, rfl⟩
  have c_l_split_1 := fn_g (base := base) (dvs := [.int 0]) (dd := [.int 0]) (PySem.W.mg_of X G a6) o6 F6.kp bb6_1 vv6_1 (fun _ => (.cons (f := []) (g := []) (.int _) .nil)) rfl
  have o5 := w_l_way (P := P) (w := w) (base := base) GG c_l_draw F5
  have c_l_way := fn_g (base := base) (dvs := []) (dd := []) (PySem.W.mg_of X G a5) o5 F5.kp (F5.bindsN (ps := ["_law_cell_here", "_law_size"]) fun _ _ _ _ _ _ us hl => match us, hl with | [_, _], _ => rfl) .nil (fun _ => .nil) rfl
  have o7 := w_l_some_row (P := P) (w := w) (base := base) GG c_l_split_1 c_l_draw c_l_way F7
  have c_l_some_row := fn_g (base := base) (dvs := []) (dd := []) (PySem.W.mg_of X G a7) o7 F7.kp (F7.bindsN (ps := ["_law_cell_here"]) fun _ _ _ _ _ _ us hl => match us, hl with | [_], _ => rfl) .nil (fun _ => .nil) rfl
  exact (w_l_law_k01 (P := P) (w := w) (base := base) GG c_l_many c_l_cell c_l_some_row c_p_is_way c_l_row_ok F8).imp (law_sp hlaw)
end Cz
open PySem PySem.W PyProof.Rows
set_option maxHeartbeats 0 in
theorem PySem.Challenge.cw_censers_k01_rows_that_are_ways_holds : PySem.Challenge.rw_censers_k01_rows_that_are_ways.Holds := by
  w_on; o_law; k_head; (case hw => w_witness2)
  k_fill
  refine L2.walk_ofB (l := PySem.Challenge.rw_censers_k01_rows_that_are_ways) (n := 63) (k := 4) (x := "_law_script") (CX := fun w => L2.CX PySem.Challenge.rw_censers_k01_rows_that_are_ways.prog w) (sp := fun w => Cz.spLaw _) rfl (by decide) rfl ⟨rfl, by decide, by decide⟩ (fun w h Y => PySem.W.kIn_of Y) ?F (fun _ _ a ns hl hb _ hS => ⟨a, ns, rfl, hS, hl, hb, fun _ => rfl⟩) ?C
  case C =>
    intro w H s e s' c
    obtain ⟨_, _, _, _, _, _, _, _, _, _, _, _, z⟩ := c
    exact z
  case F =>
    intro w mg fa h KX G hmg
    refine' Cz.all_mk KX G hmg ?a0 ?l0 ?c0 ?k0 ?a1 ?l1 ?c1 ?k1 ?a2 ?l2 ?c2 ?k2 ?a3 ?l3 ?c3 ?k3 ?a4 ?l4 ?c4 ?k4 ?a5 ?l5 ?c5 ?k5 ?a6 ?l6 ?m6 ?c6 ?k6 ?a7 ?l7 ?c7 ?k7 ?a8 ?l8 ?c8 ?k8 ?g_GREATEST ?g_all ?g_bool ?g_isinstance ?g_len ?g_max ?g_min ?g_range ?g_sum ?g_tuple Cz.law_ok_k01
    (case a0 => k_is)
    (case l0 => k_is)
    (case c0 => k_is)
    (case k0 => k_is)
    (case a1 => k_is)
    (case l1 => k_is)
    (case c1 => k_is)
    (case k1 => k_is)
    (case a2 => k_is)
    (case l2 => k_is)
    (case c2 => k_is)
    (case k2 => k_is)
    (case a3 => k_is)
    (case l3 => k_is)
    (case c3 => k_is)
    (case k3 => k_is)
    (case a4 => k_is)
    (case l4 => k_is)
    (case c4 => k_is)
    (case k4 => k_is)
    (case a5 => k_is)
    (case l5 => k_is)
    (case c5 => k_is)
    (case k5 => k_is)
    (case a6 => k_is)
    (case l6 => k_is)
    (case m6 => k_is)
    (case c6 => k_is)
    (case k6 => k_is)
    (case a7 => k_is)
    (case l7 => k_is)
    (case c7 => k_is)
    (case k7 => k_is)
    (case a8 => k_is)
    (case l8 => k_is)
    (case c8 => k_is)
    (case k8 => k_is)
    (case g_GREATEST => k_is)
    (case g_all => k_is)
    (case g_bool => k_is)
    (case g_isinstance => k_is)
    (case g_len => k_is)
    (case g_max => k_is)
    (case g_min => k_is)
    (case g_range => k_is)
    (case g_sum => k_is)
    (case g_tuple => k_is)
