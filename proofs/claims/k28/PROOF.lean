import PyProof.Rows.All
import Wide.All
import OpenK.AllK
import Wide.FinOn
import HandS.ForMost
import HandS.ForExc
import HandS.IsInst
import HandS.Wide
import HandS.Walk
import HandS.Flow
import HandS.TupMul
import HandS.TupAny
import HandS.TupLe
import HandS.Deep
import HandS.WordsDict
import HandS.WordsExc
import HandS.Defaults
import HandS.EndBits
import HandS.RevRange
import HandS.Conv
import KE.GoesEnum
import KE.GoesMore
import HandS.More
import HandS.Small
import HandS.Zip
import HandS.SortInts
import HandS.TryOnly
import HandS.TryMany
import HandS.TupSets
import HandS.SetFor
import HandS.CallLocal
import HandS.Sort
import HandS.SortOrd
import HandS.Style
import HandS.Text
import HandS.ListItems
import HandS.Iter
import HandS.Strs
import PySem.Challenge.RW_censers_k28_chances_of_rows
set_option Elab.async false
set_option linter.all false
set_option maxRecDepth 100000
set_option maxHeartbeats 4000000
/-! Cz1: plain data D, how it stands in the abstract heap (Rep), environments by value (Sl), the state's relation SR. -/
namespace Cz
open PySem PySem.Spec PyProof.Rows L2
/-- plain data: what a value is, lists and dicts by their content -/
inductive D where
  | non | bl (b : Bool) | int (i : Int) | str (x : Str) | tup (ds : List D) | lst (ds : List D) | scr (ds : List D) | dic (kvs : List (Key × D))
  /-- a def, a class by its name; an instance by its fields; a dict whose keys are tuples -/
  | fn (x : String) | obj (t : Nat) (C : String) (fs : List (Str × D)) | dtk (kvs : List (List Key × D))
  /-- an instance that is never changed any more; a dict that is never changed any more; an exception with what it carries -/
  | sob (C : String) (fs : List (Str × D)) | fdc (kvs : List (Key × D)) | exv (a dx : Addr) (fld : String) (d : D)
  /-- what a loop knows of a sealed thing -/
  | nod (o : Obj) (u : HO)
deriving Inhabited
mutual
inductive Rep (K : PySem.W.Frag) (H : Hp) : D → V → List Addr → Prop
  | non : Rep K H .non .non []
  | bl (b : Bool) : Rep K H (.bl b) (.bl b) []
  | int (i : Int) : Rep K H (.int i) (.int i) []
  | str (x : Str) : Rep K H (.str x) (.str x) []
  | tup {a : Addr} {vs : List V} {ds : List D} {f : List Addr} : H a = some (.tup vs) → Reps K H ds vs f → Rep K H (.tup ds) (.ref a) f
  | lst {a : Addr} {vs : List V} {ds : List D} {f : List Addr} : H a = some (.lst vs) → Reps K H ds vs f → Rep K H (.lst ds) (.ref a) (a :: f)
  | scr {a : Addr} {vs : List V} {ds : List D} {f : List Addr} : ((∀ H', SqL K H' a vs) ∨ ∃ o, H a = some (.frz o (.lst vs))) → Reps K H ds vs f → Rep K H (.scr ds) (.ref a) f
  | scw {a : Addr} {vs : List V} {ds : List D} {f : List Addr} : H a = some (.lst vs) → Reps K H ds vs f → Rep K H (.scr ds) (.ref a) (a :: f)
  | dic {a : Addr} {kvs : List (Key × V)} {kds : List (Key × D)} {f : List Addr} : H a = some (.dK kvs) → (kds.map (·.1)).Nodup → RepK K H kds kvs f → Rep K H (.dic kds) (.ref a) (a :: f)
  | fn {x : String} {a : Addr} : PySem.W.nsIn K mainGlobals (Str.ofString x) = some (some (.ref a)) → Rep K H (.fn x) (.ref a) []
  | obj {t : Nat} {C : String} {a Ca dx : Addr} {fvs : List (Str × V)} {fds : List (Str × D)} {f : List Addr} : H a = some (.ins Ca dx fvs) → PySem.W.nsIn K mainGlobals (Str.ofString C) = some (some (.ref Ca)) → (fds.map (·.1)).Nodup → RepK K H fds fvs f → (t = 0 ∨ t = a + 1) → Rep K H (.obj t C fds) (.ref a) (a :: f)
  | dtk {a : Addr} {kvs : List (List Key × V)} {kds : List (List Key × D)} {f : List Addr} : H a = some (.dT kvs) → (kds.map (·.1)).Nodup → RepK K H kds kvs f → Rep K H (.dtk kds) (.ref a) (a :: f)
  | sob {C : String} {a Ca dx : Addr} {o : Obj} {fvs : List (Str × V)} {fds : List (Str × D)} : H a = some (.frz o (.ins Ca dx fvs)) → PySem.W.nsIn K mainGlobals (Str.ofString C) = some (some (.ref Ca)) → (fds.map (·.1)).Nodup → RepK K H fds fvs [] → Rep K H (.sob C fds) (.ref a) []
  | fdc {a : Addr} {o : Obj} {kvs : List (Key × V)} {kds : List (Key × D)} : H a = some (.frz o (.dK kvs)) → (kds.map (·.1)).Nodup → RepK K H kds kvs [] → Rep K H (.fdc kds) (.ref a) []
  | exv {a dx : Addr} {fld : String} {v : V} {d : D} : H dx = some (.xd [(Str.ofString fld, v)]) → Rep K H d v [] → Rep K H (.exv a dx fld d) (.ref a) []
  | nod {a : Addr} {o : Obj} {u : HO} : H a = some (.frz o u) → Rep K H (.nod o u) (.ref a) []
inductive Reps (K : PySem.W.Frag) (H : Hp) : List D → List V → List Addr → Prop
  | nil : Reps K H [] [] []
  | cons {d : D} {v : V} {f : List Addr} {ds : List D} {vs : List V} {g : List Addr} : Rep K H d v f → Reps K H ds vs g → Reps K H (d :: ds) (v :: vs) (f ++ g)
inductive RepK (K : PySem.W.Frag) (H : Hp) : {κ : Type} → List (κ × D) → List (κ × V) → List Addr → Prop
  | nil {κ : Type} : RepK K H ([] : List (κ × D)) [] []
  | cons {κ : Type} {k : κ} {d : D} {v : V} {f : List Addr} {ds : List (κ × D)} {vs : List (κ × V)} {g : List Addr} : Rep K H d v f → RepK K H ds vs g → RepK K H ((k, d) :: ds) ((k, v) :: vs) (f ++ g)
end
section
variable {K : PySem.W.Frag} {H H' : Hp}
/-- tuples, also locked ones -/
def IsT : HO → Prop
  | .tup _ => True
  | .frz _ _ => True
  | .xd _ => True
  | _ => False
theorem SqT.keep {a : Addr} {vs : List V} (h : ∀ b o, H b = some o → IsT o → H' b = some o) (q : SqT K H a vs) : SqT K H' a vs := by
  rcases q with (q | ⟨o, q⟩) | q
  · exact .inl (.inl (h _ _ q trivial))
  · exact .inl (.inr ⟨o, h _ _ q trivial⟩)
  · exact .inr q
theorem Rd.keep {a : Addr} {u : HO} (h : ∀ o, H a = some o → H' a = some o) (q : Rd H a u) : Rd H' a u := by
  rcases q with q | ⟨o, q⟩
  · exact .inl (h _ q)
  · exact .inr ⟨o, h _ q⟩
mutual
/-- what is said of the nodes f and of the tuples keeps the representation -/
theorem Rep.frame (ht : ∀ b o, H b = some o → IsT o → H' b = some o) : ∀ {d : D} {v : V} {f : List Addr}, Rep K H d v f → (∀ a ∈ f, ∀ o, H a = some o → H' a = some o) → Rep K H' d v f
  | _, _, _, .non, _ => .non
  | _, _, _, .bl b, _ => .bl b
  | _, _, _, .int i, _ => .int i
  | _, _, _, .str x, _ => .str x
  | _, _, _, .tup q r, h => .tup (ht _ _ q trivial) (Reps.frame ht r h)
  | _, _, _, .lst q r, h => .lst (h _ List.mem_cons_self _ q) (Reps.frame ht r fun a ha => h a (List.mem_cons_of_mem _ ha))
  | _, _, _, .scr q r, h => .scr (q.imp id fun ⟨o, e⟩ => ⟨o, ht _ _ e trivial⟩) (Reps.frame ht r h)
  | _, _, _, .scw q r, h => .scw (h _ List.mem_cons_self _ q) (Reps.frame ht r fun a ha => h a (List.mem_cons_of_mem _ ha))
  | _, _, _, .dic q n r, h => .dic (h _ List.mem_cons_self _ q) n (RepK.frame ht r fun a ha => h a (List.mem_cons_of_mem _ ha))
  | _, _, _, .fn q, _ => .fn q
  | _, _, _, .obj q c n r z, h => .obj (h _ List.mem_cons_self _ q) c n (RepK.frame ht r fun a ha => h a (List.mem_cons_of_mem _ ha)) z
  | _, _, _, .dtk q n r, h => .dtk (h _ List.mem_cons_self _ q) n (RepK.frame ht r fun a ha => h a (List.mem_cons_of_mem _ ha))
  | _, _, _, .sob q c n r, h => .sob (ht _ _ q trivial) c n (RepK.frame ht r fun a ha => nomatch ha)
  | _, _, _, .fdc q n r, h => .fdc (ht _ _ q trivial) n (RepK.frame ht r fun a ha => nomatch ha)
  | _, _, _, .exv q r, h => .exv (ht _ _ q trivial) (Rep.frame ht r fun a ha => nomatch ha)
  | _, _, _, .nod q, h => .nod (ht _ _ q trivial)
theorem Reps.frame (ht : ∀ b o, H b = some o → IsT o → H' b = some o) : ∀ {d : List D} {v : List V} {f : List Addr}, Reps K H d v f → (∀ a ∈ f, ∀ o, H a = some o → H' a = some o) → Reps K H' d v f
  | _, _, _, .nil, _ => .nil
  | _, _, _, .cons r t, h => .cons (Rep.frame ht r fun a ha => h a (List.mem_append_left _ ha)) (Reps.frame ht t fun a ha => h a (List.mem_append_right _ ha))
theorem RepK.frame (ht : ∀ b o, H b = some o → IsT o → H' b = some o) : ∀ {κ : Type} {d : List (κ × D)} {v : List (κ × V)} {f : List Addr}, RepK K H d v f → (∀ a ∈ f, ∀ o, H a = some o → H' a = some o) → RepK K H' d v f
  | _, _, _, _, .nil, _ => .nil
  | _, _, _, _, .cons r t, h => .cons (Rep.frame ht r fun a ha => h a (List.mem_append_left _ ha)) (RepK.frame ht t fun a ha => h a (List.mem_append_right _ ha))
end
theorem Rep.same {d : D} {v : V} {f : List Addr} (s : Same H H') (r : Rep K H d v f) : Rep K H' d v f := r.frame (fun b o e _ => s b o e) fun a _ o e => s a o e
theorem Reps.same {d : List D} {v : List V} {f : List Addr} (s : Same H H') (r : Reps K H d v f) : Reps K H' d v f := r.frame (fun b o e _ => s b o e) fun a _ o e => s a o e
theorem RepK.same {κ : Type} {d : List (κ × D)} {v : List (κ × V)} {f : List Addr} (s : Same H H') (r : RepK K H d v f) : RepK K H' d v f := r.frame (fun b o e _ => s b o e) fun a _ o e => s a o e
/-! every node is tracked -/
mutual
theorem Rep.trk : ∀ {d : D} {v : V} {f : List Addr}, Rep K H d v f → ∀ a ∈ f, H a ≠ none
  | _, _, _, .tup _ r, a, ha => Reps.trk r a ha
  | _, _, _, .lst q r, a, ha => by
    rcases List.mem_cons.mp ha with e | ha
    · subst e; rw [q]; simp
    · exact Reps.trk r a ha
  | _, _, _, .scr _ r, a, ha => Reps.trk r a ha
  | _, _, _, .scw q r, a, ha => by
    rcases List.mem_cons.mp ha with e | ha
    · subst e; rw [q]; simp
    · exact Reps.trk r a ha
  | _, _, _, .dic q n r, a, ha => by
    rcases List.mem_cons.mp ha with e | ha
    · subst e; rw [q]; simp
    · exact RepK.trk r a ha
  | _, _, _, .obj q c n r _, a, ha => by
    rcases List.mem_cons.mp ha with e | ha
    · subst e; rw [q]; simp
    · exact RepK.trk r a ha
  | _, _, _, .sob _ _ _ _, a, ha => nomatch ha
  | _, _, _, .fdc _ _ _, a, ha => nomatch ha
  | _, _, _, .exv _ _, a, ha => nomatch ha
  | _, _, _, .nod _, a, ha => nomatch ha
  | _, _, _, .dtk q n r, a, ha => by
    rcases List.mem_cons.mp ha with e | ha
    · subst e; rw [q]; simp
    · exact RepK.trk r a ha
theorem Reps.trk : ∀ {d : List D} {v : List V} {f : List Addr}, Reps K H d v f → ∀ a ∈ f, H a ≠ none
  | _, _, _, .cons r t, a, ha => by
    rcases List.mem_append.mp ha with ha | ha
    · exact Rep.trk r a ha
    · exact Reps.trk t a ha
theorem RepK.trk : ∀ {κ : Type} {d : List (κ × D)} {v : List (κ × V)} {f : List Addr}, RepK K H d v f → ∀ a ∈ f, H a ≠ none
  | _, _, _, _, .cons r t, a, ha => by
    rcases List.mem_append.mp ha with ha | ha
    · exact Rep.trk r a ha
    · exact RepK.trk t a ha
end
theorem Reps.length : ∀ {d : List D} {v : List V} {f : List Addr}, Reps K H d v f → d.length = v.length
  | _, _, _, .nil => rfl
  | _, _, _, .cons _ t => by simp [Reps.length t]
theorem Rep.lstI {ds : List D} {v : V} {f : List Addr} (r : Rep K H (.lst ds) v f) : ∃ a vs g, v = .ref a ∧ SqL K H a vs ∧ Reps K H ds vs g ∧ (∀ b ∈ g, b ∈ f) ∧ (f.Nodup → g.Nodup) := by
  cases r with
  | lst q r => exact ⟨_, _, _, rfl, .of q, r, fun b hb => List.mem_cons_of_mem _ hb, fun n => (List.nodup_cons.mp n).2⟩
theorem Rep.scrI {ds : List D} {v : V} {f : List Addr} (r : Rep K H (.scr ds) v f) : ∃ a vs g, v = .ref a ∧ SqL K H a vs ∧ Reps K H ds vs g ∧ (∀ b ∈ g, b ∈ f) ∧ (f.Nodup → g.Nodup) := by
  cases r with
  | scr q r =>
    rcases q with q | ⟨o, q⟩
    · exact ⟨_, _, _, rfl, q _, r, fun b hb => hb, fun n => n⟩
    · exact ⟨_, _, _, rfl, .inl (.inr ⟨o, q⟩), r, fun b hb => hb, fun n => n⟩
  | scw q r => exact ⟨_, _, _, rfl, .of q, r, fun b hb => List.mem_cons_of_mem _ hb, fun n => (List.nodup_cons.mp n).2⟩
theorem Rep.tupI {ds : List D} {v : V} {f : List Addr} (r : Rep K H (.tup ds) v f) : ∃ a vs, v = .ref a ∧ H a = some (.tup vs) ∧ Reps K H ds vs f := by
  cases r with
  | tup q r => exact ⟨_, _, rfl, q, r⟩
theorem Reps.get : ∀ {ds : List D} {vs : List V} {f : List Addr} {i : Nat} {d : D}, Reps K H ds vs f → ds[i]? = some d → ∃ v g, vs[i]? = some v ∧ Rep K H d v g ∧ (∀ b ∈ g, b ∈ f) ∧ (f.Nodup → g.Nodup)
  | _, _, _, 0, d, .cons r _, e => by
    simp at e; subst e
    exact ⟨_, _, rfl, r, fun b hb => List.mem_append_left _ hb, fun n => (List.nodup_append.mp n).1⟩
  | _, _, _, i + 1, d, .cons r t, e => by
    obtain ⟨v, g, h1, h2, h3, h4⟩ := Reps.get (i := i) (d := d) t (by simpa using e)
    exact ⟨v, g, by simpa using h1, h2, fun b hb => List.mem_append_right _ (h3 b hb), fun n => h4 (List.nodup_append.mp n).2.1⟩
theorem Reps.take : ∀ {ds : List D} {vs : List V} {f : List Addr} (n : Nat), Reps K H ds vs f → ∃ g, Reps K H (ds.take n) (vs.take n) g ∧ (∀ b ∈ g, b ∈ f) ∧ (f.Nodup → g.Nodup)
  | _, _, _, 0, _ => ⟨[], .nil, by simp, by simp⟩
  | _, _, _, n + 1, .nil => ⟨[], .nil, by simp, by simp⟩
  | _, _, _, n + 1, .cons (f := f) r t => by
    obtain ⟨g, h1, h2, h3⟩ := Reps.take n t
    refine ⟨f ++ g, .cons r h1, fun b hb => ?_, fun nd => ?_⟩
    · rcases List.mem_append.mp hb with hb | hb
      · exact List.mem_append_left _ hb
      · exact List.mem_append_right _ (h2 b hb)
    · obtain ⟨n1, n2, n3⟩ := List.nodup_append.mp nd
      exact List.nodup_append.mpr ⟨n1, h3 n2, fun a ha b hb => n3 a ha b (h2 b hb)⟩
theorem Reps.drop : ∀ {ds : List D} {vs : List V} {f : List Addr} (n : Nat), Reps K H ds vs f → ∃ g, Reps K H (ds.drop n) (vs.drop n) g ∧ (∀ b ∈ g, b ∈ f) ∧ (f.Nodup → g.Nodup)
  | _, _, _, 0, r => ⟨_, r, fun _ h => h, fun h => h⟩
  | _, _, _, n + 1, .nil => ⟨[], .nil, by simp, by simp⟩
  | _, _, _, n + 1, .cons r t => by
    obtain ⟨g, h1, h2, h3⟩ := Reps.drop n t
    exact ⟨g, h1, fun b hb => List.mem_append_right _ (h2 b hb), fun nd => h3 (List.nodup_append.mp nd).2.1⟩
theorem Reps.app : ∀ {ds es : List D} {vs ws : List V} {f g : List Addr}, Reps K H ds vs f → Reps K H es ws g → Reps K H (ds ++ es) (vs ++ ws) (f ++ g)
  | _, _, _, _, _, _, .nil, s => s
  | _, _, _, _, _, _, .cons r t, s => by rw [List.append_assoc]; exact .cons r (Reps.app t s)
theorem Reps.ints : ∀ (ns : List Int), Reps K H (ns.map D.int) (ns.map V.int) []
  | [] => .nil
  | n :: ns => .cons (f := []) (g := []) (.int n) (Reps.ints ns)
/-- items that are ints -/
theorem Reps.ints_inv : ∀ {ns : List Int} {vs : List V} {f : List Addr}, Reps K H (ns.map D.int) vs f → vs = ns.map V.int ∧ f = []
  | [], _, _, h => by cases h; exact ⟨rfl, rfl⟩
  | n :: ns, _, _, h => by
    cases h with
    | cons r t =>
      cases r
      obtain ⟨e1, e2⟩ := Reps.ints_inv t
      subst e1; subst e2
      exact ⟨rfl, rfl⟩
end
/-! ### no list, no dict within -/
mutual
def noL : D → Bool
  | .non => true | .bl _ => true | .int _ => true | .str _ => true
  | .tup ds => noLs ds
  | .lst _ => false | .scr _ => false | .dic _ => false
  | .fn _ => true | .obj _ _ _ => false | .dtk _ => false
  | .sob _ _ => true | .fdc _ => true | .exv _ _ _ _ => true | .nod _ _ => true
def noLs : List D → Bool
  | [] => true
  | d :: ds => noL d && noLs ds
end
mutual
theorem Rep.noL {K : PySem.W.Frag} {H : Hp} : ∀ {d : D} {v : V} {f : List Addr}, Rep K H d v f → Cz.noL d = true → f = []
  | _, _, _, .non, _ => rfl
  | _, _, _, .bl b, _ => rfl
  | _, _, _, .int i, _ => rfl
  | _, _, _, .str x, _ => rfl
  | _, _, _, .tup q r, h => Reps.noL r (by simpa [Cz.noL] using h)
  | _, _, _, .lst q r, h => by simp [Cz.noL] at h
  | _, _, _, .scr q r, h => by simp [Cz.noL] at h
  | _, _, _, .scw q r, h => by simp [Cz.noL] at h
  | _, _, _, .dic q n r, h => by simp [Cz.noL] at h
  | _, _, _, .fn q, _ => rfl
  | _, _, _, .obj q c n r _, h => by simp [Cz.noL] at h
  | _, _, _, .dtk q n r, h => by simp [Cz.noL] at h
  | _, _, _, .sob _ _ _ _, _ => rfl
  | _, _, _, .fdc _ _ _, _ => rfl
  | _, _, _, .exv _ _, _ => rfl
  | _, _, _, .nod _, _ => rfl
theorem Reps.noL {K : PySem.W.Frag} {H : Hp} : ∀ {d : List D} {v : List V} {f : List Addr}, Reps K H d v f → Cz.noLs d = true → f = []
  | _, _, _, .nil, _ => rfl
  | _, _, _, .cons r t, h => by
    simp only [Cz.noLs, Bool.and_eq_true] at h
    rw [Rep.noL r h.1, Reps.noL t h.2]; rfl
end
@[simp] theorem noLs_ints : ∀ ns : List Int, noLs (ns.map D.int) = true
  | [] => rfl
  | n :: ns => by simp [noLs, noL, noLs_ints ns]
/-! ### kinds, results, slots -/
inductive Kd where
  | own | bor (is : List Nat)
def Kd.is : Kd → List Nat
  | .own => []
  | .bor is => is
def Kd.join : Kd → Kd → Kd
  | .own, .own => .own
  | a, b => .bor (a.is ++ b.is)
theorem Kd.join_own (k : Kd) : k.join .own = k := by cases k <;> simp [Kd.join, Kd.is]
/-- what is raised: the class by its name, with a field or without -/
inductive Ec where
  | n (s : String) | p (s fld : String) (d : D)
instance : Coe String Ec := ⟨Ec.n⟩
def Ec.nm : Ec → String
  | .n s => s
  | .p s _ _ => s
@[simp] theorem Ec.nm_n (s : String) : (Ec.n s).nm = s := rfl
@[simp] theorem Ec.nm_p (s f : String) (d : D) : (Ec.p s f d).nm = s := rfl
inductive R (α : Type) where
  | ok (a : α) | ex (c : Ec) | st
def R.bind {α β : Type} : R α → (α → R β) → R β
  | .ok a, f => f a
  | .ex c, _ => .ex c
  | .st, _ => .st
@[simp] theorem R.bind_ok {α β : Type} (a : α) (f : α → R β) : (R.ok a).bind f = f a := rfl
@[simp] theorem R.bind_ex {α β : Type} (c : Ec) (f : α → R β) : (R.ex c : R α).bind f = .ex c := rfl
@[simp] theorem R.bind_st {α β : Type} (f : α → R β) : (R.st : R α).bind f = .st := rfl
inductive Sl where
  | no | ow (d : D) | bo (is : List Nat) (d : D)
abbrev Env := List Sl
abbrev KD := Kd × D
abbrev SE := Env → R KD
abbrev STs := Env → R Bool
abbrev SA := Env → R (List KD)
inductive Out where
  | nx (ρ : Env) | rt (k : Kd) (d : D) | bk (ρ : Env) | ct (ρ : Env) | ex (c : Ec) (ρ : Env) | st | ri (ρ : Env) (k : Kd) (d : D)
abbrev SS := Env → Out
/-- it may be written -/
structure Mu (o : Option HO) : Prop where
  m : L2.Mut o
def Sh (A : Addr → Prop) (H0 : Hp) (F : Nat → List Addr) (a : Addr) : Prop := (A a ∨ H0 a = none) ∧ ∀ j, a ∉ F j
def BOk (A : Addr → Prop) (H0 : Hp) (F : Nat → List Addr) (is : List Nat) (f : List Addr) : Prop := ∀ a ∈ f, (∃ j ∈ is, a ∈ F j) ∨ Sh A H0 F a
def KOk (A : Addr → Prop) (H0 : Hp) (F : Nat → List Addr) (H H' : Hp) : Kd → List Addr → Prop
  | .own, f => f.Nodup ∧ ∀ a ∈ f, H a = none ∧ Mu (H' a)
  | .bor is, f => BOk A H0 F is f
def RetK (A : Addr → Prop) (H0 H' : Hp) : Kd → List Addr → Prop
  | .own, f => f.Nodup ∧ ∀ a ∈ f, H0 a = none ∧ Mu (H' a)
  | .bor _, f => ∀ a ∈ f, A a ∨ H0 a = none
/-- the state: A, what was shared at the entry; H0, the entry; F, the nodes that each slot owns; G, what loops walk -/
structure SR (K : PySem.W.Frag) (A : Addr → Prop) (H0 : Hp) (F : Nat → List Addr) (G : List (D × V)) (ρ : Env) (σ : L2.St) (H : Hp) : Prop where
  len : ρ.length = σ.length
  fr : Same H0 H
  own : ∀ i, (F i).Nodup ∧ ∀ a ∈ F i, H0 a = none ∧ Mu (H a)
  dis : ∀ i j a, a ∈ F i → a ∈ F j → i = j
  slo : ∀ (i : Nat) d, ρ[i]? = some (.ow d) → ∃ v, σ[i]? = some (some v) ∧ Rep K H d v (F i)
  slb : ∀ (i : Nat) is d, ρ[i]? = some (.bo is d) → ∃ v f, σ[i]? = some (some v) ∧ Rep K H d v f ∧ BOk A H0 F is f
  gho : ∀ p ∈ G, ∃ f, Rep K H p.1 p.2 f ∧ ∀ a ∈ f, Sh A H0 F a
  emp : ∀ i, i < ρ.length → F i ≠ [] → ∃ d, ρ[i]? = some (.ow d)
  fin : ∃ L, ∀ j, L ≤ j → F j = []
section
variable {K : PySem.W.Frag} {A : Addr → Prop} {H0 H H1 H' : Hp} {F : Nat → List Addr} {G : List (D × V)} {ρ : Env} {σ : L2.St}
theorem Mu.same {a : Addr} (s : Same H H') (m : Mu (H a)) : Mu (H' a) := by
  cases e : H a with
  | none => rw [e] at m; exact m.m.elim
  | some o => rw [s a o e]; rw [e] at m; exact m
theorem Mu.ne {a : Addr} (m : Mu (H a)) : H a ≠ none := by
  intro e; rw [e] at m; exact m.m
theorem SR.same (r : SR K A H0 F G ρ σ H) (s : Same H H') : SR K A H0 F G ρ σ H' where
  len := r.len
  fr := r.fr.trans s
  own := fun i => ⟨(r.own i).1, fun a ha => ⟨((r.own i).2 a ha).1, ((r.own i).2 a ha).2.same s⟩⟩
  dis := r.dis
  slo := fun i d e => let ⟨v, h1, h2⟩ := r.slo i d e; ⟨v, h1, h2.same s⟩
  slb := fun i is d e => let ⟨v, f, h1, h2, h3⟩ := r.slb i is d e; ⟨v, f, h1, h2.same s, h3⟩
  gho := fun p hp => let ⟨f, h1, h2⟩ := r.gho p hp; ⟨f, h1.same s, h2⟩
  emp := r.emp
  fin := r.fin
theorem KOk.bok {k : Kd} {f : List Addr} (r : SR K A H0 F G ρ σ H) (h : KOk A H0 F H H' k f) : BOk A H0 F k.is f := by
  cases k with
  | own => exact fun a ha => .inr ⟨.inr (r.fr.free (h.2 a ha).1), fun j hj => ((r.own j).2 a hj).2.ne (h.2 a ha).1⟩
  | bor is => exact h
theorem BOk.mono {is js : List Nat} {f g : List Addr} (h : BOk A H0 F is f) (hi : ∀ j ∈ is, j ∈ js) (hf : ∀ a ∈ g, a ∈ f) : BOk A H0 F js g := fun a ha => by
  rcases h a (hf a ha) with ⟨j, hj, q⟩ | q
  · exact .inl ⟨j, hi j hj, q⟩
  · exact .inr q
theorem KOk.sub {k : Kd} {f g : List Addr} (h : KOk A H0 F H H' k f) (hs : ∀ a ∈ g, a ∈ f) (hn : f.Nodup → g.Nodup) : KOk A H0 F H H' k g := by
  cases k with
  | own => exact ⟨hn h.1, fun a ha => h.2 a (hs a ha)⟩
  | bor is => exact fun a ha => h a (hs a ha)
theorem KOk.nil (k : Kd) : KOk A H0 F H H' k [] := by
  cases k with
  | own => exact ⟨List.nodup_nil, fun a ha => nomatch ha⟩
  | bor is => exact fun a ha => nomatch ha
/-- later: the heap ahead earlier, the heap behind later -/
theorem KOk.wide {k : Kd} {f : List Addr} {Ha Hb : Hp} (h : KOk A H0 F H H' k f) (s1 : Same Ha H) (s2 : Same H' Hb) : KOk A H0 F Ha Hb k f := by
  cases k with
  | own => exact ⟨h.1, fun a ha => ⟨s1.free (h.2 a ha).1, (h.2 a ha).2.same s2⟩⟩
  | bor is => exact h
/-- two, one made behind the other -/
theorem KOk.join {k k' : Kd} {f g : List Addr} {Ha Hm Hb : Hp} (r : SR K A H0 F G ρ σ Ha) (s1 : Same Ha Hm) (s2 : Same Hm Hb) (hf : ∀ a ∈ f, Hm a ≠ none) (h : KOk A H0 F Ha Hm k f) (h' : KOk A H0 F Hm Hb k' g) :
    KOk A H0 F Ha Hb (k.join k') (f ++ g) := by
  have b1 := h.bok r
  have b2 := h'.bok (r.same s1)
  have key : BOk A H0 F (k.is ++ k'.is) (f ++ g) := fun a ha => by
    rcases List.mem_append.mp ha with ha | ha
    · exact b1.mono (fun j hj => List.mem_append_left _ hj) (fun _ q => q) a ha
    · exact b2.mono (fun j hj => List.mem_append_right _ hj) (fun _ q => q) a ha
  cases k with
  | own =>
    cases k' with
    | own =>
      refine ⟨List.nodup_append.mpr ⟨h.1, h'.1, fun a ha b hb e => ?_⟩, fun a ha => ?_⟩
      · subst e; exact hf a ha (h'.2 a hb).1
      · rcases List.mem_append.mp ha with ha | ha
        · exact ⟨(h.2 a ha).1, (h.2 a ha).2.same s2⟩
        · exact ⟨s1.free (h'.2 a ha).1, (h'.2 a ha).2⟩
    | bor js => exact key
  | bor is => exact key
end
end Cz
set_option maxHeartbeats 4000000
/-! Cz2a: further rules by values: + of any tuples and lists, * of tuples, max and min of a tuple. -/
namespace Cz
open PySem PySem.Spec PyProof.Rows L2
section
variable {X : Cx}
theorem OpR.or {f : Value → Value → Sem Value} {r r' : R2} (h : OpR X f r) (h' : OpR X f r') : OpR X f (fun x y H Q => r x y H Q ∨ r' x y H Q) := by
  intro pins s σ H x y v u Q I rx ry q
  rcases q with q | q
  · exact h pins s σ H x y v u Q I rx ry q
  · exact h' pins s σ H x y v u Q I rx ry q
def rCatTT (K : PySem.W.Frag) : R2 := fun x y H Q => ∃ a b xs ys, x = .ref a ∧ y = .ref b ∧ SqT K H a xs ∧ SqT K H b ys ∧ xs.length + ys.length ≤ sizeLine ∧
  (xs = [] → Q (.ref b) H) ∧ (xs ≠ [] → ys = [] → Q (.ref a) H) ∧ (xs ≠ [] → ys ≠ [] → ∀ p, H p = none → Q (.ref p) (upd H p (.tup (xs ++ ys))))
theorem op_catTT : OpR X (binaryOp .Add) (rCatTT X.K) := by
  intro pins s σ H x y v u Q I rx ry h
  obtain ⟨a, b, xs, ys, rfl, rfl, ha, hb, hz, q0, q1, q2⟩ := h
  cases rx
  cases ry
  obtain ⟨its, r1, ht, _⟩ := I.tuple ha
  obtain ⟨its2, r2, ht2, _⟩ := I.tuple hb
  by_cases hx : xs = []
  · obtain ⟨⟨cls, dd, data, sl⟩, ho, hc, n, hd⟩ := id ht
    obtain ⟨⟨cls2, dd2, data2, sl2⟩, ho2, hc2, n2, hd2⟩ := id ht2
    simp only at hc hd hc2 hd2
    subst hc hd hc2 hd2
    have hv : its = [] := r1.nil_iff.mpr hx
    exact concat_meets ⟨_, ho, rfl⟩ ⟨_, ho2, rfl⟩ noFill_tuple_add seq_tuple_add PySem.F.slot_tuple_add PySem.F.entry_tuple_add (PySem.F.args_tuple_add_2 _ _)
      (tuple_addW0 a b its.toArray its2.toArray n n2 dd dd2 sl sl2 (by simp [hv])) ⟨ho, ho2, ⟨.ref b, H, I, rfl, q0 hx⟩⟩
  · refine HT.cat_tup ht ht2 (fun z => hx (r1.nil_iff.mp z)) (fun z => ⟨.ref a, H, I, rfl, q1 hx (r2.nil_iff.mp z)⟩) (fun z => ?_) (by rw [← r1.length, ← r2.length]; exact hz)
    refine ⟨.ref s.heap.objs.size, _, I.laid (t' := s.toks) (o := .tup (xs ++ ys)) (fun b ob q => Heap.get?_push_of_some _ q) (Nat.le_refl _) ?_, rfl, q2 hx (fun w => z (r2.nil_iff.mpr w)) _ (I.hok.fresh (Nat.le_refl _))⟩
    exact ⟨by rw [List.length_append]; exact hz, _, r1.append r2, IsTup.new _ _⟩
def rCatLL (K : PySem.W.Frag) : R2 := fun x y H Q => ∃ l b xs zs, x = .ref l ∧ y = .ref b ∧ SqL K H l xs ∧ SqL K H b zs ∧ xs.length + zs.length ≤ sizeLine ∧ ∀ p, H p = none → Q (.ref p) (upd H p (.lst (xs ++ zs)))
theorem op_catLL : OpR X (binaryOp .Add) (rCatLL X.K) := by
  intro pins s σ H x y v u Q I rx ry h
  obtain ⟨l, b, xs, zs, rfl, rfl, hH, hB, hz, q⟩ := h
  cases rx
  cases ry
  obtain ⟨its, r, hl, _⟩ := I.list hH
  obtain ⟨its2, r2, hl2, _⟩ := I.list hB
  obtain ⟨⟨cls, dd, data, sl⟩, n, ho, hc, hdn, hd⟩ := id hl
  obtain ⟨⟨cls2, dd2, data2, sl2⟩, n2, ho2, hc2, hdn2, hd2⟩ := id hl2
  simp only at hc hd hc2 hd2 hdn hdn2
  subst hc hd hc2 hd2 hdn hdn2
  refine concat_meets ⟨_, ho, rfl⟩ ⟨_, ho2, rfl⟩ noFill_list_add seq_list_add PySem.F.slot_list_add PySem.F.entry_list_add (PySem.F.args_list_add_2 _ _) (list_addW l b its.toArray its2.toArray n n2 _ _ sl sl2 (by rw [List.size_toArray, List.size_toArray, ← r.length, ← r2.length]; exact hz)) ⟨ho, ho2, ?_⟩
  have ea : its.toArray ++ its2.toArray = (its ++ its2).toArray := by simp
  rw [ea]
  exact ⟨.ref _, _, I.lnew (t' := s.toks) (r.append r2) (by rw [List.length_append]; omega), rfl, q _ I.fresh⟩
/-- max, min of a tuple of ints -/
theorem max_rawT {prog : Program} {w : World} {A : Around} {E : Value → Shared → Prop} {s : Shared} {l : Addr} {its : List Value} {ns : List Int} {Q : Value → Shared → Prop} (hh : A.handled = none) (hl : s.heap.IsTuple l its.toArray) (hi : IntsAre its ns) (hne : 0 < ns.length)
    (h : ∀ h' tk M t', (∀ b o, s.heap.get? b = some o → h'.get? b = some o) → M ∈ ns → (∀ a, a ∈ ns → a ≤ M) → Q (.int M t') { s with heap := h', toks := tk }) : wpAny (model prog w) A (call (.builtin "max") [.ref l]) Q E s := by
  obtain ⟨xs, e⟩ := hi.allInts.items
  have hn : numsOf (intItems xs).toList = ns := by rw [← e]; exact hi.numsOf
  rw [nums_intItems] at hn
  subst hn
  rw [e] at hl
  have hsz : 0 < xs.size := by simpa using hne
  have hlt : l < s.heap.objs.size := by obtain ⟨_, e, _⟩ := hl; exact Heap.lt_size e
  refine call_max_walk (wpAny_pyIter_tuple hl ?_)
  refine ⟨_, [_, l], [_], _, _, _, _, rfl, Walks.tuple (A := A.in1) hh _ l (Nat.ne_of_lt hlt) (intItems xs), ⟨⟨_, Heap.get?_push_size _ rfl, rfl, rfl⟩, hl.push _⟩, fun c hc => ?_, by simpa [intItems] using hsz, CmpOf.ints_gt (numAt xs) (fun _ _ => intItems_at), fun v h' tk hP hk => ?_⟩
  · show c < (s.heap.push _).objs.size
    rw [Heap.size_push]
    rcases List.mem_cons.mp hc with rfl | hc
    · exact Nat.lt_succ_self _
    · rcases List.mem_cons.mp hc with rfl | hc
      · exact Nat.lt_succ_of_lt hlt
      · cases hc
  · have hold : ∀ c o, s.heap.get? c = some o → h'.get? c = some o := fun c o e => by
      refine hk c o (fun hm => ?_) (Heap.get?_push_of_some _ e)
      rcases List.mem_cons.mp hm with e1 | hm
      · have := Heap.lt_size e; rw [e1] at this; exact Nat.lt_irrefl _ this
      · cases hm
    have hP' : (intItems xs)[argBest (fun i j => decide (numAt xs i > numAt xs j)) (xs.size - 1)]? = some v := by simpa [intItems] using hP
    obtain ⟨t, rfl⟩ := intItems_at hP'
    obtain ⟨h1, h2⟩ := argBest_gt (numAt xs) (xs.size - 1)
    refine h h' tk _ t hold ?_ fun a ha => ?_
    · rw [numAt_eq]; exact PySem.getD_mem (by rw [List.length_map, Array.length_toList]; omega)
    · obtain ⟨j, hj, rfl⟩ := mem_getD ha
      rw [List.length_map, Array.length_toList] at hj
      rw [← numAt_eq]; exact h2 j (by omega)
theorem min_rawT {prog : Program} {w : World} {A : Around} {E : Value → Shared → Prop} {s : Shared} {l : Addr} {its : List Value} {ns : List Int} {Q : Value → Shared → Prop} (hh : A.handled = none) (hl : s.heap.IsTuple l its.toArray) (hi : IntsAre its ns) (hne : 0 < ns.length)
    (h : ∀ h' tk M t', (∀ b o, s.heap.get? b = some o → h'.get? b = some o) → M ∈ ns → (∀ a, a ∈ ns → M ≤ a) → Q (.int M t') { s with heap := h', toks := tk }) : wpAny (model prog w) A (call (.builtin "min") [.ref l]) Q E s := by
  obtain ⟨xs, e⟩ := hi.allInts.items
  have hn : numsOf (intItems xs).toList = ns := by rw [← e]; exact hi.numsOf
  rw [nums_intItems] at hn
  subst hn
  rw [e] at hl
  have hsz : 0 < xs.size := by simpa using hne
  have hlt : l < s.heap.objs.size := by obtain ⟨_, e, _⟩ := hl; exact Heap.lt_size e
  refine call_min_walk (wpAny_pyIter_tuple hl ?_)
  refine ⟨_, [_, l], [_], _, _, _, _, rfl, Walks.tuple (A := A.in1) hh _ l (Nat.ne_of_lt hlt) (intItems xs), ⟨⟨_, Heap.get?_push_size _ rfl, rfl, rfl⟩, hl.push _⟩, fun c hc => ?_, by simpa [intItems] using hsz, CmpOf.ints_lt (numAt xs) (fun _ _ => intItems_at), fun v h' tk hP hk => ?_⟩
  · show c < (s.heap.push _).objs.size
    rw [Heap.size_push]
    rcases List.mem_cons.mp hc with rfl | hc
    · exact Nat.lt_succ_self _
    · rcases List.mem_cons.mp hc with rfl | hc
      · exact Nat.lt_succ_of_lt hlt
      · cases hc
  · have hold : ∀ c o, s.heap.get? c = some o → h'.get? c = some o := fun c o e => by
      refine hk c o (fun hm => ?_) (Heap.get?_push_of_some _ e)
      rcases List.mem_cons.mp hm with e1 | hm
      · have := Heap.lt_size e; rw [e1] at this; exact Nat.lt_irrefl _ this
      · cases hm
    have hP' : (intItems xs)[argBest (fun i j => decide (numAt xs i < numAt xs j)) (xs.size - 1)]? = some v := by simpa [intItems] using hP
    obtain ⟨t, rfl⟩ := intItems_at hP'
    obtain ⟨h1, h2⟩ := argBest_lt (numAt xs) (xs.size - 1)
    refine h h' tk _ t hold ?_ fun a ha => ?_
    · rw [numAt_eq]; exact PySem.getD_mem (by rw [List.length_map, Array.length_toList]; omega)
    · obtain ⟨j, hj, rfl⟩ := mem_getD ha
      rw [List.length_map, Array.length_toList] at hj
      rw [← numAt_eq]; exact h2 j (by omega)
def rMaxT (K : PySem.W.Frag) : List V → Hp → VK → Prop := fun vs H Q => ∃ (a : Addr) (ns : List Int), vs = [V.ref a] ∧ SqT K H a (ns.map V.int) ∧ 0 < ns.length ∧ ∀ m, m ∈ ns → (∀ y, y ∈ ns → y ≤ m) → Q (.int m) H
def rMinT (K : PySem.W.Frag) : List V → Hp → VK → Prop := fun vs H Q => ∃ (a : Addr) (ns : List Int), vs = [V.ref a] ∧ SqT K H a (ns.map V.int) ∧ 0 < ns.length ∧ ∀ m, m ∈ ns → (∀ y, y ∈ ns → m ≤ y) → Q (.int m) H
theorem cr_maxT (hc : X.calm = true) : CallR X (.builtin "max") (rMaxT X.K) := by
  intro pins s σ H vs us Q I r h
  obtain ⟨a, ns, rfl, hs, hne, q⟩ := h
  obtain ⟨its, rv, hl, _⟩ := I.tuple hs
  rw [Vals.ref1 r]
  exact max_rawT (I.ok.hd hc) (show s.heap.IsTuple a its.toArray from hl) rv.ints hne fun h' tk m t' hk h1 h2 => ⟨.int _, H, I.kept hk, ⟨_, rfl⟩, q m h1 h2⟩
theorem cr_minT (hc : X.calm = true) : CallR X (.builtin "min") (rMinT X.K) := by
  intro pins s σ H vs us Q I r h
  obtain ⟨a, ns, rfl, hs, hne, q⟩ := h
  obtain ⟨its, rv, hl, _⟩ := I.tuple hs
  rw [Vals.ref1 r]
  exact min_rawT (I.ok.hd hc) (show s.heap.IsTuple a its.toArray from hl) rv.ints hne fun h' tk m t' hk h1 h2 => ⟨.int _, H, I.kept hk, ⟨_, rfl⟩, q m h1 h2⟩
/-- * of two factors of together less than a hundred million bits -/
def CMulX (i j : Int) : Prop := i.natAbs.log2 + j.natAbs.log2 < 100000000
theorem CMulX.ok {i j : Int} (h : CMulX i j) : IntMulOk i j := by
  have b : ∀ x : Int, Builtin.Int.intBits x ≤ x.natAbs.log2 + 1 := fun x => by
    unfold Builtin.Int.intBits
    split <;> omega
  have h1 := b i
  have h2 := b j
  have h3 : i.natAbs.log2 + j.natAbs.log2 < 100000000 := h
  have e : bitsLine = 134217728 := by decide
  unfold IntMulOk
  intro z
  rw [Bool.and_eq_true] at z
  have z2 := z.2
  unfold Builtin.Int.intTooBig at z2
  have z3 := of_decide_eq_true z2
  rw [e] at z3
  omega
theorem op_mulX : OpR X (binaryOp .Mult) (rI CMulX fun i j => .int (i * j)) := opI fun _ _ _ _ _ _ _ hc q => mul_int q hc.ok
/-- t * 1 is t itself -/
theorem tuple_mul1 (l : Addr) (items : Array Value) (n : Nat) (dd : Option Addr) (sl : Array (Option Value)) (u : Tok) :
    Meets (Builtin.«tuple.__mul__» ⟨[.ref l, .int 1 u], []⟩) (fun _ R s => s.heap.get? l = some { cls := .type "tuple", dict := dd, data := .seq items n, slots := sl } ∧ R (.ok (.ret (.ref l))) s) :=
  .of_wp fun prog w A R s h => by
    obtain ⟨hp, g, d, tk, os⟩ := s
    obtain ⟨hl, h⟩ := h
    have f1 := AutoSeq1.idx_int
    have c0 : (decide ((1 : Int) < -(2 ^ 63)) || decide ((1 : Int) ≥ 2 ^ 63)) = false := by decide
    have c1 : (items.isEmpty || (1 : Int) == 1) = true := by simp
    wp_walk using wpAny_loadPart' hl
    repeat (first
      | (refine wpAny_ite_false (decide_eq_false (by rw [c0]; exact Bool.false_ne_true)) ?_; wp_walk using wpAny_loadPart' hl)
      | (refine wpAny_ite_true (decide_eq_true (by rw [c1])) ?_; wp_walk using wpAny_loadPart' hl)
      | (refine wpAny_ite_true (by first | exact c1 | exact decide_eq_true c1) ?_; wp_walk using wpAny_loadPart' hl))
    exact ⟨_, rfl, h⟩
def rRepT1 (K : PySem.W.Frag) : R2 := fun x y H Q => ∃ l k xs, x = .ref l ∧ y = .int k ∧ SqT K H l xs ∧ xs ≠ [] ∧ 1 ≤ k ∧ k ≤ 1000 ∧ xs.length ≤ 1000 ∧ (k = 1 → Q (.ref l) H) ∧ (k ≠ 1 → ∀ p, H p = none → Q (.ref p) (upd H p (.tup (List.replicate k.toNat xs).flatten)))
theorem op_repT1 : OpR X (binaryOp .Mult) (rRepT1 X.K) := by
  intro pins s σ H x y v u Q I rx ry h
  obtain ⟨l, k, xs, rfl, rfl, hT, hne, h1, h2, hz, q1, q2⟩ := h
  by_cases hk : k = 1
  · subst hk
    cases rx
    obtain ⟨t, rfl⟩ := ry
    obtain ⟨its, r, ⟨⟨cls, dd, data, sl⟩, ho, hc, n, hd⟩, hs⟩ := I.tuple hT
    simp only at hc hd
    subst hc hd
    refine wpAny_binaryOp_repeat_ref (T := "tuple") (U := "int") (by decide) ⟨_, ho, rfl⟩ (fun s' => typeIs_int s' 1 t) noFill_tuple_mul F.fills_int_mul F.slot_int_rmul repeat_tuple F.slot_int_index.lookup
      (call_meets F.slot_int_rmul (typeIs_int s 1 t) F.entry_int_rmul (F.args_int_rmul_2 _ _) (int_rmul_tuple 1 t l its.toArray n dd sl)
        ⟨ho, rfl, ⟨_, ho, rfl⟩, call_meets F.slot_tuple_mul ⟨_, ho, rfl⟩ F.entry_tuple_mul (F.args_tuple_mul_2 _ _) (tuple_mul1 l its.toArray n dd sl t) ⟨ho, ?_⟩⟩)
    exact ⟨.ref l, H, I, rfl, q1 rfl⟩
  · exact op_repT pins s σ H _ _ v u Q I rx ry ⟨l, k, xs, rfl, rfl, hT, hne, by omega, h2, hz, q2 hk⟩
theorem foldl_size : ∀ (k : Nat) (z a : Array Nat), ((List.replicate k z).foldl (· ++ ·) a).size = a.size + z.size * k
  | 0, z, a => by simp
  | k + 1, z, a => by rw [List.replicate_succ, List.foldl_cons, foldl_size k z, Array.size_append, Nat.mul_succ]; omega
/-- a text several times over -/
def strMul (z : Str) (k : Nat) : Str := ⟨(List.replicate k z.cps).foldl (· ++ ·) #[]⟩
def rMulS : R2 := fun x y H Q => ∃ (z : Str) (k : Int), x = .str z ∧ y = .int k ∧ 2 ≤ k ∧ k ≤ 1000 ∧ 1 ≤ z.length ∧ z.length ≤ 1000 ∧ Q (.str (strMul z k.toNat)) H
theorem op_mulS : OpR X (binaryOp .Mult) rMulS := by
  intro pins s σ H x y v u Q I rx ry h
  obtain ⟨z, k, rfl, rfl, h1, h2, h3, h4, q⟩ := h
  obtain ⟨t, rfl⟩ := rx
  obtain ⟨t', rfl⟩ := ry
  have n1 : ¬ k < 1 := by omega
  have n2 : (k == 1 || z.length == 0) = false := by
    rw [Bool.or_eq_false_iff]; exact ⟨beq_eq_false_iff_ne.mpr (by omega), beq_eq_false_iff_ne.mpr (by omega)⟩
  have hb : z.length * k.toNat ≤ 1000000 := by
    have a : z.length * k.toNat ≤ 1000 * 1000 := Nat.mul_le_mul h4 (by omega)
    omega
  refine P.mul_str (by rw [decide_eq_false (by omega), decide_eq_false (by omega)]; rfl) (fun _ _ => ?_) (fun _ _ => ?_) ?_
  · have : (2 ^ 63 - 1 : Int) / k ≥ (2 ^ 63 - 1) / 1000 := Int.le_ediv_of_mul_le (by omega) (by
      have : ((2 ^ 63 - 1) / 1000 : Int) * k ≤ ((2 ^ 63 - 1) / 1000 : Int) * 1000 := Int.mul_le_mul_of_nonneg_left h2 (by decide)
      have e : ((2 ^ 63 - 1) / 1000 : Int) * 1000 ≤ 2 ^ 63 - 1 := by decide
      omega)
    have e2 : ((2 ^ 63 - 1) / 1000 : Int) ≥ 1000 := by decide
    omega
  · unfold PySem.Builtin.Str.tooLong
    exact decide_eq_false (by have := sizeLine_eq; omega)
  · rw [if_neg n1, if_neg (by rw [n2]; exact Bool.false_ne_true)]
    refine ⟨?_, ⟨.str (strMul z k.toNat), H, I.tok _, ⟨_, rfl⟩, q⟩⟩
    show (strMul z k.toNat).cps.size ≤ _
    unfold strMul
    rw [foldl_size]
    have := sizeLine_eq
    have e : z.cps.size = z.length := rfl
    rw [e]
    simp
    omega
end
end Cz
set_option maxHeartbeats 4000000
/-! Cz2: expressions: what the machine gives is what the evaluator gives. -/
namespace Cz
open PySem PySem.Spec PyProof.Rows L2
/-- what the outside asks of what is raised -/
def WxOk (K : PySem.W.Frag) (CA : String → Addr) (c : Ec) (w : Value → Option Addr → Hp → Prop) (H : Hp) : Prop := match c with
  | .n s => w (.ref (CA s)) none H
  | .p s fld d => ∀ dx v, H dx = some (.xd [(Str.ofString fld, v)]) → Rep K H d v [] → w (.ref (CA s)) (some dx) H
def Post {α : Type} (K : PySem.W.Frag) (CA : String → Addr) (W : WX) (σ : L2.St) (H : Hp) (r : R α) (ok : α → Prop) : Prop :=
  match r with
  | .ok a => ok a
  | .ex c => ∀ H', Same H H' → WxOk K CA c (fun cls od => W cls od σ) H'
  | .st => False
def Cont (K : PySem.W.Frag) (A : Addr → Prop) (H0 : Hp) (F : Nat → List Addr) (H : Hp) (kd : KD) (Q : VK) : Prop :=
  ∀ v H' f, Same H H' → Rep K H' kd.2 v f → KOk A H0 F H H' kd.1 f → Q v H'
def tE (K : PySem.W.Frag) (CA : String → Addr) (W : WX) (s : SE) : TE := fun σ H Q =>
  ∃ A H0 F G ρ, SR K A H0 F G ρ σ H ∧ Post K CA W σ H (s ρ) fun kd => Cont K A H0 F H kd Q
def tT (K : PySem.W.Frag) (CA : String → Addr) (W : WX) (s : STs) : TT := fun σ H Q =>
  ∃ A H0 F G ρ, SR K A H0 F G ρ σ H ∧ Post K CA W σ H (s ρ) fun b => ∀ H', Same H H' → Q b H'
def R.of {α : Type} : Option α → R α
  | some a => .ok a
  | none => .st
@[simp] theorem R.of_some {α : Type} (a : α) : R.of (some a) = .ok a := rfl
@[simp] theorem R.of_none {α : Type} : R.of (none : Option α) = .st := rfl
section
variable {K : PySem.W.Frag} {CA : String → Addr} {W : WX} {σ : L2.St} {H H1 : Hp}
theorem Post.bind {α β : Type} {r : R α} {f : α → R β} {ok : β → Prop} {ok' : α → Prop} (h : Post K CA W σ H (r.bind f) ok) (k : ∀ a, Post K CA W σ H (f a) ok → ok' a) : Post K CA W σ H r ok' := by
  cases r with
  | ok a => exact k a h
  | ex c => exact h
  | st => exact h
theorem Post.later {α : Type} {r : R α} {ok : α → Prop} (h : Post K CA W σ H r ok) (s : Same H H1) : Post K CA W σ H1 r ok := by
  cases r with
  | ok a => exact h
  | ex c => exact fun H' q => h H' (s.trans q)
  | st => exact h
theorem Post.of {α : Type} {o : Option α} {ok : α → Prop} (h : Post K CA W σ H (R.of o) ok) : ∃ a, o = some a ∧ ok a := by
  cases o with
  | none => exact h.elim
  | some a => exact ⟨a, rfl, h⟩
theorem Post.imp {α : Type} {r : R α} {ok ok' : α → Prop} (h : Post K CA W σ H r ok) (k : ∀ a, r = .ok a → ok a → ok' a) : Post K CA W σ H r ok' := by
  cases r with
  | ok a => exact k a rfl h
  | ex c => exact h
  | st => exact h
end
section
variable {X : Cx} {e : Expr}
theorem peI {t t' : TE} (h : PE X e t) (k : ∀ σ H Q, t' σ H Q → t σ H Q) : PE X e t' := ⟨fun pins s σ H Q I q => h.run pins s σ H Q I (k σ H Q q)⟩
theorem ptI {t t' : TT} (h : PT X e t) (k : ∀ σ H Q, t' σ H Q → t σ H Q) : PT X e t' := ⟨fun pins s σ H Q I q => h.run pins s σ H Q I (k σ H Q q)⟩
theorem pwI {t t' : TT} (h : PW X e t) (k : ∀ σ H Q, t' σ H Q → t σ H Q) : PW X e t' := ⟨fun w pins s σ H Q I q => h.run w pins s σ H Q I (k σ H Q q)⟩
end
/-! ### names and constants -/
def locE (i : Nat) : SE := fun ρ => match ρ[i]? with
  | some (.ow d) => .ok (.bor [i], d)
  | some (.bo is d) => .ok (.bor is, d)
  | _ => .st
def conE (d : D) : SE := fun _ => .ok (.own, d)
section
variable {X : Cx} {CA : String → Addr} {W : WX} {pos : Pos}
theorem e_loc (i : Nat) {x : Str} (hN : X.N[i]? = some x := by rfl) (hv : Vis X.env.scope x := by first | exact Or.inl rfl | exact Or.inr (Or.inl rfl) | exact Or.inr (Or.inr rfl)) (hd : (x == ("__debug__" : Str)) = false := by decide)
    (hcd : (x == ("__classdict__" : Str)) = false := by decide) : PE X (.Name x pos) (tE X.K CA W (locE i)) := by
  refine peI (pe_var hN hv hd hcd) fun σ H Q ⟨A, H0, F, G, ρ, sr, h⟩ => ?_
  unfold locE at h
  cases e : ρ[i]? with
  | none => rw [e] at h; exact h.elim
  | some sl =>
    rw [e] at h
    cases sl with
    | no => exact h.elim
    | ow d =>
      obtain ⟨v, hv, r⟩ := sr.slo i d e
      exact ⟨v, hv, h v H (F i) (Same.refl H) r fun a ha => .inl ⟨i, by simp, ha⟩⟩
    | bo is d =>
      obtain ⟨v, f, hv, r, b⟩ := sr.slb i is d e
      exact ⟨v, hv, h v H f (Same.refl H) r b⟩
theorem e_con {e : Expr} {d : D} {v : V} (h : PE X e (tC v)) (r : ∀ K H, Rep K H d v []) : PE X e (tE X.K CA W (conE d)) :=
  peI h fun σ H Q ⟨A, H0, F, G, ρ, sr, h⟩ => h v H [] (Same.refl H) (r _ _) (KOk.nil _)
theorem e_int {i : Int} {j} : PE X (.Constant (.int i) j pos) (tE X.K CA W (conE (.int i))) := e_con pe_int fun _ _ => .int i
theorem e_bl {b : Bool} {j} : PE X (.Constant (.bool b) j pos) (tE X.K CA W (conE (.bl b))) := e_con pe_bl fun _ _ => .bl b
theorem e_non {j} : PE X (.Constant .none j pos) (tE X.K CA W (conE .non)) := e_con pe_non fun _ _ => .non
theorem e_str {x : Str} {j} : PE X (.Constant (.str x) j pos) (tE X.K CA W (conE (.str x))) := e_con pe_str fun _ _ => .str x
/-- a module's int -/
theorem e_gint {x : Str} {i : Int} (hm : ∃ t, X.mg x = some (.int i t)) (hg : Gl X x := by rfl) (hd : (x == ("__debug__" : Str)) = false := by decide) : PE X (.Name x pos) (tE X.K CA W (conE (.int i))) := by
  obtain ⟨t, hm⟩ := hm
  exact e_con (pe_glob (v := .int i) hg hm ⟨t, rfl⟩ hd) fun _ _ => .int i
/-- a module's text -/
theorem e_gstr {x : Str} {i : Str} (hm : ∃ t, X.mg x = some (.str i t)) (hg : Gl X x := by rfl) (hd : (x == ("__debug__" : Str)) = false := by decide) : PE X (.Name x pos) (tE X.K CA W (conE (.str i))) := by
  obtain ⟨t, hm⟩ := hm
  exact e_con (pe_glob (v := .str i) hg hm ⟨t, rfl⟩ hd) fun _ _ => .str i
end
/-! ### two operands -/
def LIM : Nat := 16777216
theorem lim_eq : LIM = sizeLine := sizeLine_eq.symm
def mulOk (i j : Int) : Bool := decide (i.natAbs.log2 + j.natAbs.log2 < 100000000)
def divOk (j : Int) : Bool := decide (0 < j) && decide (j.natAbs.log2 < 9000)
def powOk (i j : Int) : Bool := decide (0 ≤ j) && decide (j ≤ 1000000) && decide (i.natAbs < 2 ^ 64)
/-- the kind of a new list of such items -/
def lk (k : Kd) (ds : List D) : Kd := if noLs ds = true then .own else k
def opB : Operator → KD → KD → Option KD
  | .Add, (_, .int i), (_, .int j) => some (.own, .int (i + j))
  | .Add, (_, .str i), (_, .str j) => if i.length + j.length ≤ LIM then some (.own, .str (i ++ j)) else none
  | .Add, (k1, .tup a), (k2, .tup b) => if a.length + b.length ≤ LIM then some (k1.join k2, .tup (a ++ b)) else none
  | .Add, (k1, .lst a), (k2, .lst b) => if a.length + b.length ≤ LIM then some (lk (k1.join k2) (a ++ b), .lst (a ++ b)) else none
  | .Sub, (_, .int i), (_, .int j) => some (.own, .int (i - j))
  | .Mult, (_, .int i), (_, .int j) => if mulOk i j = true then some (.own, .int (i * j)) else none
  | .Mult, (k, .tup a), (_, .int j) => if a ≠ [] ∧ 1 ≤ j ∧ j ≤ 1000 ∧ a.length ≤ 1000 ∧ noLs a = true then some (k, .tup (List.replicate j.toNat a).flatten) else none
  | .Mult, (_, .str z), (_, .int j) => if 2 ≤ j ∧ j ≤ 1000 ∧ 1 ≤ z.length ∧ z.length ≤ 1000 then some (.own, .str (strMul z j.toNat)) else none
  | .FloorDiv, (_, .int i), (_, .int j) => if divOk j = true then some (.own, .int (i / j)) else none
  | .Mod, (_, .int i), (_, .int j) => if 0 < j then some (.own, .int (i % j)) else none
  | .Pow, (_, .int i), (_, .int j) => if powOk i j = true then some (.own, .int (i ^ j.toNat)) else none
  | _, _, _ => none
def binE (op : Operator) (a b : SE) : SE := fun ρ => (a ρ).bind fun x => (b ρ).bind fun y => R.of (opB op x y)
def rOp (K : PySem.W.Frag) : Operator → R2
  | .Add => fun x y H Q => rI0 (fun i j => .int (i + j)) x y H Q ∨ (∃ i j, x = .str i ∧ y = .str j ∧ i.length + j.length ≤ sizeLine ∧ Q (.str (i ++ j)) H) ∨ rCatTT K x y H Q ∨ rCatLL K x y H Q
  | .Sub => rI0 fun i j => .int (i - j)
  | .Mult => fun x y H Q => rI CMulX (fun i j => .int (i * j)) x y H Q ∨ rRepT1 K x y H Q ∨ rMulS x y H Q
  | .FloorDiv => rI CDivW fun i j => .int (i / j)
  | .Mod => rI (fun _ j => 0 < j) fun i j => .int (i % j)
  | .Pow => rI CPow fun i j => .int (i ^ j.toNat)
  | _ => fun _ _ _ _ => False
theorem rOp_ok {X : Cx} (op : Operator) : OpR X (binaryOp op) (rOp X.K op) := by
  cases op with
  | Add => exact op_add.or (op_add_str.or (op_catTT.or op_catLL))
  | Sub => exact op_sub
  | Mult => exact op_mulX.or (op_repT1.or op_mulS)
  | FloorDiv => exact op_fdivW
  | Mod => exact op_mod
  | Pow => exact op_pow
  | _ => exact fun _ _ _ _ _ _ _ _ _ _ _ _ h => h.elim
theorem same_upd {H : Hp} {p : Addr} {o : HO} (h : H p = none) : Same H (upd H p o) := fun b x e => by
  rw [upd_ne (ne_of_none e h)]; exact e
section
variable {K : PySem.W.Frag} {A : Addr → Prop} {H0 H H1 H2 : Hp} {F : Nat → List Addr} {G : List (D × V)} {ρ : Env} {σ : L2.St} {Q : VK}
theorem Cont.atom {d : D} {v : V} {k : Kd} (h : Cont K A H0 F H (k, d) Q) (s : Same H H1) (r : Rep K H1 d v []) : Q v H1 := h v H1 [] s r (KOk.nil _)
/-- a new list's node -/
theorem KOk.node {k : Kd} {p : Addr} {xs : List V} {f : List Addr} (sr : SR K A H0 F G ρ σ H) (s : Same H H1) (np : H1 p = none) (hf : ∀ a ∈ f, H1 a ≠ none) (o : KOk A H0 F H H1 k f) :
    KOk A H0 F H (upd H1 p (.lst xs)) k (p :: f) := by
  have hp : ∀ a ∈ f, a ≠ p := fun a ha e => hf a ha (by rw [e]; exact np)
  cases k with
  | own =>
    refine ⟨List.nodup_cons.mpr ⟨fun hm => hp p hm rfl, o.1⟩, fun a ha => ?_⟩
    rcases List.mem_cons.mp ha with e | ha
    · subst e; exact ⟨s.free np, ⟨by rw [upd_same]; trivial⟩⟩
    · exact ⟨(o.2 a ha).1, (o.2 a ha).2.same (same_upd np)⟩
  | bor is =>
    intro a ha
    rcases List.mem_cons.mp ha with e | ha
    · subst e
      exact .inr ⟨.inr ((sr.fr.trans s).free np), fun j hj => ((sr.same s).own j).2 a hj |>.2.ne np⟩
    · exact o a ha
theorem KOk.lk {k : Kd} {ds : List D} {vs : List V} {f : List Addr} (r : Reps K H1 ds vs f) (o : KOk A H0 F H H1 k f) : KOk A H0 F H H1 (lk k ds) f := by
  unfold Cz.lk
  split
  · rename_i h
    rw [Reps.noL r h]
    exact KOk.nil _
  · exact o
/-- what a new list of such items is wanted for -/
theorem Cont.newL {k : Kd} {ds : List D} {vs : List V} {f : List Addr} {p : Addr} (h : Cont K A H0 F H (k, .lst ds) Q) (sr : SR K A H0 F G ρ σ H) (s : Same H H1) (r : Reps K H1 ds vs f) (o : KOk A H0 F H H1 k f) (np : H1 p = none) : Q (.ref p) (upd H1 p (.lst vs)) :=
  h _ _ (p :: f) (s.trans (same_upd np)) (.lst upd_same (r.same (same_upd np))) (o.node sr s np r.trk)
theorem Cont.newT {k : Kd} {ds : List D} {vs : List V} {f : List Addr} {p : Addr} (h : Cont K A H0 F H (k, .tup ds) Q) (s : Same H H1) (r : Reps K H1 ds vs f) (o : KOk A H0 F H H1 k f) (np : H1 p = none) : Q (.ref p) (upd H1 p (.tup vs)) :=
  h _ _ f (s.trans (same_upd np)) (.tup upd_same (r.same (same_upd np))) (o.wide (Same.refl H) (same_upd np))
theorem opB_ok {op : Operator} {k1 k2 : Kd} {d1 d2 : D} {v1 v2 : V} {f1 f2 : List Addr} {kd : KD} (sr : SR K A H0 F G ρ σ H) (s1 : Same H H1) (s2 : Same H1 H2) (r1 : Rep K H1 d1 v1 f1) (r2 : Rep K H2 d2 v2 f2)
    (o1 : KOk A H0 F H H1 k1 f1) (o2 : KOk A H0 F H1 H2 k2 f2) (e : opB op (k1, d1) (k2, d2) = some kd) (h : Cont K A H0 F H kd Q) : rOp K op v1 v2 H2 Q := by
  have s12 := s1.trans s2
  have r1' := r1.same s2
  have two : ∀ {P : Int → Int → Prop} {g : Int → Int → Int} {i j : Int}, d1 = .int i → d2 = .int j → P i j → kd = (.own, .int (g i j)) → rI P (fun i j => .int (g i j)) v1 v2 H2 Q := fun {P g i j} e1 e2 p e3 => by
    subst e1; subst e2; subst e3
    cases r1; cases r2
    exact ⟨_, _, rfl, rfl, p, h.atom s12 (.int _)⟩
  cases op with
  | Add =>
    cases d1 with
    | int i =>
      cases d2 with
      | int j => simp only [opB, Option.some.injEq] at e; subst e; cases r1; cases r2; exact .inl ⟨_, _, rfl, rfl, h.atom s12 (.int _)⟩
      | _ => simp [opB] at e
    | str i =>
      cases d2 with
      | str j =>
        simp only [opB] at e
        split at e
        · cases e; cases r1; cases r2; rename_i hz; exact .inr (.inl ⟨_, _, rfl, rfl, by rw [← lim_eq]; exact hz, h.atom s12 (.str _)⟩)
        · cases e
      | _ => simp [opB] at e
    | tup a =>
      cases d2 with
      | tup b =>
        simp only [opB] at e
        split at e
        · rename_i hz
          cases e
          cases r1' with
          | tup t1 q1 =>
          cases r2 with
          | tup t2 q2 =>
          refine .inr (.inr (.inl ⟨_, _, _, _, rfl, rfl, .of t1, .of t2, by rw [← lim_eq, ← q1.length, ← q2.length]; exact hz, fun hx => ?_, fun hx hy => ?_, fun hx hy p np => ?_⟩))
          · subst hx
            cases q1
            exact h _ _ f2 s12 (.tup t2 q2) (KOk.join sr s1 s2 (f := []) (fun a ha => nomatch ha) (KOk.nil k1) o2)
          · subst hy
            cases q2
            refine h _ _ f1 s12 (by rw [List.append_nil]; exact .tup t1 q1) ?_
            have := KOk.join sr s1 s2 (g := []) r1.trk o1 (KOk.nil k2)
            rw [List.append_nil] at this
            exact this
          · exact h.newT s12 (q1.app q2) (KOk.join sr s1 s2 r1.trk o1 o2) np
        · cases e
      | _ => simp [opB] at e
    | lst a =>
      cases d2 with
      | lst b =>
        simp only [opB] at e
        split at e
        · rename_i hz
          cases e
          obtain ⟨a1, vs1, g1, rfl, t1, q1, i1, n1⟩ := r1.lstI
          obtain ⟨a2, vs2, g2, rfl, t2, q2, i2, n2⟩ := r2.lstI
          have q1' := q1.same s2
          refine .inr (.inr (.inr ⟨_, _, _, _, rfl, rfl, s2.seq t1, t2, by rw [← lim_eq, ← q1.length, ← q2.length]; exact hz, fun p np => ?_⟩))
          have o := KOk.join sr s1 s2 q1.trk (o1.sub i1 n1) (o2.sub i2 n2)
          exact h.newL sr s12 (q1'.app q2) (o.lk (q1'.app q2)) np
        · cases e
      | _ => simp [opB] at e
    | _ => cases d2 <;> simp [opB] at e
  | Sub =>
    cases d1 with
    | int i =>
      cases d2 with
      | int j => simp only [opB, Option.some.injEq] at e; subst e; cases r1; cases r2; exact ⟨_, _, rfl, rfl, h.atom s12 (.int _)⟩
      | _ => simp [opB] at e
    | _ => cases d2 <;> simp [opB] at e
  | Mult =>
    cases d1 with
    | int i =>
      cases d2 with
      | int j =>
        simp only [opB] at e
        split at e
        · rename_i hz; cases e; exact .inl (two (P := CMulX) rfl rfl (show i.natAbs.log2 + j.natAbs.log2 < 100000000 from of_decide_eq_true hz) rfl)
        · cases e
      | _ => simp [opB] at e
    | tup a =>
      cases d2 with
      | int j =>
        simp only [opB] at e
        split at e
        · rename_i hz
          cases e
          obtain ⟨h1, h2, h3, h4, h5⟩ := hz
          cases r1' with
          | @tup a0 vs _ _ t1 q1 =>
          cases r2
          have hne : vs ≠ [] := fun z => by subst z; cases q1; exact h1 rfl
          have hf := Reps.noL q1 h5
          refine .inr (.inl ⟨_, _, _, rfl, rfl, .of t1, hne, h2, h3, by rw [← q1.length]; exact h4, fun z => ?_, fun z p np => ?_⟩)
          · have : (List.replicate j.toNat a).flatten = a := by rw [z]; simp
            rw [this] at h
            exact h _ _ f1 s12 (.tup t1 q1) (by rw [hf]; exact KOk.nil _)
          · have rr : ∀ m : Nat, Reps K H2 (List.replicate m a).flatten (List.replicate m vs).flatten [] := fun m => by
              induction m with
              | zero => exact .nil
              | succ m ih =>
                rw [hf] at q1
                have := q1.app ih
                simpa [List.replicate_succ] using this
            exact h.newT s12 (rr _) (KOk.nil _) np
        · cases e
      | _ => simp [opB] at e
    | str z =>
      cases d2 with
      | int j =>
        simp only [opB] at e
        split at e
        · rename_i hz; cases e; cases r1; cases r2
          exact .inr (.inr ⟨_, _, rfl, rfl, hz.1, hz.2.1, hz.2.2.1, hz.2.2.2, h.atom s12 (.str _)⟩)
        · cases e
      | _ => simp [opB] at e
    | _ => cases d2 <;> simp [opB] at e
  | FloorDiv =>
    cases d1 with
    | int i =>
      cases d2 with
      | int j =>
        simp only [opB] at e
        split at e
        · rename_i hz; cases e
          have hz' := Bool.and_eq_true_iff.mp hz
          exact two rfl rfl ⟨of_decide_eq_true hz'.1, of_decide_eq_true hz'.2⟩ rfl
        · cases e
      | _ => simp [opB] at e
    | _ => cases d2 <;> simp [opB] at e
  | Mod =>
    cases d1 with
    | int i =>
      cases d2 with
      | int j =>
        simp only [opB] at e
        split at e
        · rename_i hz; cases e; exact two (P := fun _ j => 0 < j) rfl rfl hz rfl
        · cases e
      | _ => simp [opB] at e
    | _ => cases d2 <;> simp [opB] at e
  | Pow =>
    cases d1 with
    | int i =>
      cases d2 with
      | int j =>
        simp only [opB] at e
        split at e
        · rename_i hz; cases e
          have hz' := Bool.and_eq_true_iff.mp hz
          have hz2 := Bool.and_eq_true_iff.mp hz'.1
          exact two rfl rfl ⟨of_decide_eq_true hz2.1, of_decide_eq_true hz2.2, of_decide_eq_true hz'.2⟩ rfl
        · cases e
      | _ => simp [opB] at e
    | _ => cases d2 <;> simp [opB] at e
  | _ => cases d1 <;> cases d2 <;> simp [opB] at e
end
section
variable {X : Cx} {CA : String → Addr} {W : WX} {pos : Pos} {a b : Expr} {sa sb : SE}
theorem e_bin {op : Operator} (ha : PE X a (tE X.K CA W sa)) (hb : PE X b (tE X.K CA W sb)) : PE X (.BinOp a op b pos) (tE X.K CA W (binE op sa sb)) := by
  refine peI (pe_op (rOp_ok op) ha hb) fun σ H Q ⟨A, H0, F, G, ρ, sr, h⟩ => ?_
  refine ⟨A, H0, F, G, ρ, sr, h.bind fun ⟨k1, d1⟩ h1 => ?_⟩
  intro v1 H1 f1 s1 r1 o1
  refine ⟨A, H0, F, G, ρ, sr.same s1, (h1.later s1).bind fun ⟨k2, d2⟩ h2 => ?_⟩
  intro v2 H2 f2 s2 r2 o2
  obtain ⟨kd, e, h3⟩ := h2.of
  exact opB_ok sr s1 s2 r1 r2 o1 o2 e h3
end
end Cz
set_option maxHeartbeats 4000000
/-! Cz3: comparisons, tests, displays, subscripts, slices. -/
namespace Cz
open PySem PySem.Spec PyProof.Rows L2
theorem Post.ofB {α β : Type} {K : PySem.W.Frag} {CA : String → Addr} {W : WX} {σ : L2.St} {H : Hp} {o : Option α} {f : α → R β} {ok : β → Prop} (h : Post K CA W σ H ((R.of o).bind f) ok) : ∃ a, o = some a ∧ Post K CA W σ H (f a) ok := by
  cases o with
  | none => exact h.elim
  | some a => exact ⟨a, rfl, h⟩
/-! ### equality -/
mutual
def toP : D → Option PyData
  | .non => some .none | .bl b => some (.bool b) | .int i => some (.int i) | .str x => some (.str x)
  | .tup ds => (toPs ds).map .tuple
  | .lst ds => (toPs ds).map .list
  | .scr ds => (toPs ds).map .list
  | .dic _ => none
  | .fn _ => none | .obj _ _ _ => none | .dtk _ => none
  | .sob _ _ => none | .fdc _ => none | .exv _ _ _ _ => none | .nod _ _ => none
def toPs : List D → Option (List PyData)
  | [] => some []
  | d :: ds => match toP d, toPs ds with
    | some p, some ps => some (p :: ps)
    | _, _ => none
end
def eqD (a b : D) : Option Bool := match toP a, toP b with
  | some p, some q => if SeqAt.shaped p = true then if SeqAt.shaped q = true then some (PyData.eqv p q) else none else none
  | _, _ => none
section
variable {K : PySem.W.Frag} {H : Hp}
mutual
theorem Rep.dp : ∀ {d : D} {v : V} {f : List Addr} {p : PyData}, Rep K H d v f → toP d = some p → Dp K H v p
  | _, _, _, _, .non, e => by simp only [toP, Option.some.injEq] at e; subst e; exact .non
  | _, _, _, _, .bl b, e => by simp only [toP, Option.some.injEq] at e; subst e; exact .bl b
  | _, _, _, _, .int i, e => by simp only [toP, Option.some.injEq] at e; subst e; exact .int i
  | _, _, _, _, .str x, e => by simp only [toP, Option.some.injEq] at e; subst e; exact .str x
  | _, _, _, _, .tup (ds := ds) q r, e => by
    cases h : toPs ds with
    | none => simp [toP, h] at e
    | some ps => simp only [toP, h, Option.map_some, Option.some.injEq] at e; subst e; exact .tup (.of q) (Reps.dp r h)
  | _, _, _, _, .lst (ds := ds) q r, e => by
    cases h : toPs ds with
    | none => simp [toP, h] at e
    | some ps => simp only [toP, h, Option.map_some, Option.some.injEq] at e; subst e; exact .lst (.of q) (Reps.dp r h)
  | _, _, _, _, .scw (ds := ds) q r, e => by
    cases h : toPs ds with
    | none => simp [toP, h] at e
    | some ps => simp only [toP, h, Option.map_some, Option.some.injEq] at e; subst e; exact .lst (.of q) (Reps.dp r h)
  | _, _, _, _, .scr (ds := ds) q r, e => by
    cases h : toPs ds with
    | none => simp [toP, h] at e
    | some ps =>
      simp only [toP, h, Option.map_some, Option.some.injEq] at e; subst e
      rcases q with q | ⟨o, q⟩
      · exact .lst (q _) (Reps.dp r h)
      · exact .lst (.inl (.inr ⟨o, q⟩)) (Reps.dp r h)
  | _, _, _, _, .dic q n r, e => by simp [toP] at e
  | _, _, _, _, .fn q, e => by simp [toP] at e
  | _, _, _, _, .obj q c n r _, e => by simp [toP] at e
  | _, _, _, _, .dtk q n r, e => by simp [toP] at e
  | _, _, _, _, .sob _ _ _ _, e => by simp [toP] at e
  | _, _, _, _, .fdc _ _ _, e => by simp [toP] at e
  | _, _, _, _, .exv _ _, e => by simp [toP] at e
  | _, _, _, _, .nod _, e => by simp [toP] at e
theorem Reps.dp : ∀ {d : List D} {v : List V} {f : List Addr} {p : List PyData}, Reps K H d v f → toPs d = some p → DpAll K H v p
  | _, _, _, _, .nil, e => by simp only [toPs, Option.some.injEq] at e; subst e; exact .nil
  | _, _, _, _, .cons (d := d) (ds := ds) r t, e => by
    cases h : toP d with
    | none => simp [toPs, h] at e
    | some p =>
      cases h2 : toPs ds with
      | none => simp [toPs, h, h2] at e
      | some ps => simp only [toPs, h, h2, Option.some.injEq] at e; subst e; exact .cons (Rep.dp r h) (Reps.dp t h2)
end
end
/-! ### in -/
def fV : D → Option V
  | .non => some .non | .bl b => some (.bl b) | .int i => some (.int i) | .str x => some (.str x)
  | _ => none
def fVs : List D → Option (List V)
  | [] => some []
  | d :: ds => match fV d, fVs ds with
    | some p, some ps => some (p :: ps)
    | _, _ => none
def keyD : D → Option Key
  | .int i => some (.inl i)
  | .str x => some (.inr x)
  | _ => none
def valD {κ : Type} [DecidableEq κ] : List (κ × D) → κ → Option D
  | [], _ => none
  | (k, d) :: r, q => if k = q then some d else valD r q
def keysT : List D → Option (List Key)
  | [] => some []
  | d :: ds => match keyD d, keysT ds with
    | some k, some ks => some (k :: ks)
    | _, _ => none
/-- a key that is a tuple -/
def keyT : D → Option (List Key)
  | .tup ds => keysT ds
  | _ => none
def inD (x y : D) : Option Bool := match y with
  | .dic kvs => (keyD x).map fun k => (valD kvs k).isSome
  | .fdc kvs => (keyD x).map fun k => (valD kvs k).isSome
  | .dtk kvs => (keyT x).map fun k => (valD kvs k).isSome
  | .str z => (match x with
    | .str s => (match s.cps.toList with
      | [c] => some (decide (c ∈ z.cps.toList))
      | _ => some (!(Builtin.Str.occurrences z s 0 z.length 1).isEmpty))
    | _ => none)
  | .tup ds => (match fV x, fVs ds with
    | some v, some vs => some (inV v vs)
    | _, _ => none)
  | .lst ds => (match toP x, toPs ds with
    | some p, some ps => if SeqAt.shaped p = true then if SeqAt.shaped (.list ps) = true then some (ps.any fun z => PyData.eqv z p) else none else none
    | _, _ => none)
  | _ => none
def isNon : D → Bool
  | .non => true
  | _ => false
def intsD : List D → Option (List Int)
  | [] => some []
  | .int i :: r => (intsD r).map (i :: ·)
  | _ :: _ => none
@[simp] theorem intsD_map : ∀ ns : List Int, intsD (ns.map D.int) = some ns
  | [] => rfl
  | n :: ns => by simp [intsD, intsD_map ns]
theorem intsD_eq : ∀ {ds : List D} {ns : List Int}, intsD ds = some ns → ds = ns.map D.int
  | [], ns, e => by simp only [intsD, Option.some.injEq] at e; subst e; rfl
  | d :: ds, ns, e => by
    cases d with
    | int i =>
      cases h : intsD ds with
      | none => simp [intsD, h] at e
      | some ms => simp only [intsD, h, Option.map_some, Option.some.injEq] at e; subst e; rw [intsD_eq h]; rfl
    | _ => simp [intsD] at e
/-- tuples of ints, <= -/
def leT (ns ms : List Int) : Bool := Ob.lexAt (fun j => decide (ns.getD j 0 = ms.getD j 0)) (fun j => decide (ns.getD j 0 ≤ ms.getD j 0)) (decide (ns.length ≤ ms.length)) 0 (min ns.length ms.length)
def cmpB : CmpOp → D → D → Option Bool
  | .Lt, .int i, .int j => some (decide (i < j))
  | .Lt, .tup a, .tup b => (intsD a).bind fun ns => (intsD b).map fun ms => HT.lexLt ns ms
  | .LtE, .int i, .int j => some (decide (i ≤ j))
  | .LtE, .tup a, .tup b => (intsD a).bind fun ns => (intsD b).map fun ms => leT ns ms
  | .Gt, .int i, .int j => some (decide (i > j))
  | .GtE, .int i, .int j => some (decide (i ≥ j))
  | .Eq, a, b => eqD a b
  | .NotEq, a, b => (eqD a b).map (!·)
  | .Is, a, .non => some (isNon a)
  | .IsNot, a, .non => some (!isNon a)
  | .In, x, y => inD x y
  | .NotIn, x, y => (inD x y).map (!·)
  | _, _, _ => none
section
variable {K : PySem.W.Frag} {H : Hp}
theorem Rep.fV {d : D} {v u : V} {f : List Addr} (r : Rep K H d v f) (e : Cz.fV d = some u) : v = u ∧ flatV u = true := by
  cases r <;> simp [Cz.fV] at e <;> (subst e; exact ⟨rfl, rfl⟩)
theorem Reps.fV : ∀ {ds : List D} {vs us : List V} {f : List Addr}, Reps K H ds vs f → fVs ds = some us → vs = us ∧ us.all flatV = true
  | _, _, _, _, .nil, e => by simp only [fVs, Option.some.injEq] at e; subst e; exact ⟨rfl, rfl⟩
  | _, _, _, _, .cons (d := d) (ds := ds) r t, e => by
    cases h : Cz.fV d with
    | none => simp [fVs, h] at e
    | some p =>
      cases h2 : fVs ds with
      | none => simp [fVs, h, h2] at e
      | some ps =>
        simp only [fVs, h, h2, Option.some.injEq] at e; subst e
        obtain ⟨e1, e2⟩ := r.fV h
        obtain ⟨e3, e4⟩ := Reps.fV t h2
        subst e1; subst e3
        exact ⟨rfl, by simp [e2, e4]⟩
theorem keyD_rep {d : D} {v : V} {f : List Addr} {k : Key} (r : Rep K H d v f) (e : keyD d = some k) : v = kV k := by
  cases r <;> simp [keyD] at e <;> (subst e; rfl)
theorem keysT_rep : ∀ {ds : List D} {vs : List V} {f : List Addr} {k : List Key}, Reps K H ds vs f → keysT ds = some k → vs = k.map kV
  | [], _, _, k, .nil, e => by simp [keysT] at e; subst e; rfl
  | d :: ds, _, _, k, .cons r t, e => by
    cases h1 : keyD d with
    | none => simp [keysT, h1] at e
    | some k1 =>
      cases h2 : keysT ds with
      | none => simp [keysT, h1, h2] at e
      | some ks =>
        simp only [keysT, h1, h2, Option.some.injEq] at e
        subst e
        rw [keyD_rep r h1, keysT_rep t h2]; rfl
theorem keyT_rep {d : D} {v : V} {f : List Addr} {k : List Key} (r : Rep K H d v f) (e : keyT d = some k) : ∃ b, v = .ref b ∧ H b = some (.tup (k.map kV)) := by
  cases r with
  | tup q t =>
    have := keysT_rep t e
    subst this
    exact ⟨_, rfl, q⟩
  | _ => simp [keyT] at e
theorem RepK.val {κ : Type} [DecidableEq κ] : ∀ {kds : List (κ × D)} {kvs : List (κ × V)} {f : List Addr} (k : κ), RepK K H kds kvs f →
    (valD kds k = none ∧ valV kvs k = none) ∨ ∃ d v g, valD kds k = some d ∧ valV kvs k = some v ∧ Rep K H d v g ∧ (∀ a ∈ g, a ∈ f) ∧ (f.Nodup → g.Nodup)
  | _, _, _, k, .nil => .inl ⟨rfl, rfl⟩
  | _, _, _, k, .cons (k := q) (d := d) (v := v) r t => by
    by_cases h : q = k
    · refine .inr ⟨d, v, _, by simp [valD, h], valV_pos h, r, fun a ha => List.mem_append_left _ ha, fun n => (List.nodup_append.mp n).1⟩
    · rcases RepK.val k t with ⟨e1, e2⟩ | ⟨d', v', g, e1, e2, e3, e4, e5⟩
      · exact .inl ⟨by simp [valD, h, e1], by rw [valV_neg (p := (q, v)) h]; exact e2⟩
      · exact .inr ⟨d', v', g, by simp [valD, h, e1], by rw [valV_neg (p := (q, v)) h]; exact e2, e3, fun a ha => List.mem_append_right _ (e4 a ha), fun n => e5 (List.nodup_append.mp n).2.1⟩
end
def rDIn (neg : Bool) : R2 := fun x y H Q => ∃ a o, y = .ref a ∧ DGet H a x o ∧ Q (.bl (if neg then !o.isSome else o.isSome)) H
theorem op_dIn {X : Cx} (hu : X.A.units + 1 < cLine) : OpR X (compareOp .In) (rDIn false) := by
  intro pins s σ H x y v u Q I rx ry h
  obtain ⟨a, o, rfl, g, q⟩ := h
  obtain rfl : u = Value.ref a := ry
  exact d_in hu I g rx fun s3 I3 => ⟨.bl o.isSome, H, I3, rfl, q⟩
theorem op_dNotIn {X : Cx} (hu : X.A.units + 1 < cLine) : OpR X (compareOp .NotIn) (rDIn true) := by
  intro pins s σ H x y v u Q I rx ry h
  obtain ⟨a, o, rfl, g, q⟩ := h
  obtain rfl : u = Value.ref a := ry
  exact d_notIn hu I g rx fun s3 I3 => ⟨.bl (!o.isSome), H, I3, rfl, q⟩
def rOcc (neg : Bool) : R2 := fun x y H Q => ∃ i j, x = .str i ∧ y = .str j ∧ Q (.bl (if neg then !(!(Builtin.Str.occurrences j i 0 j.length 1).isEmpty) else !(Builtin.Str.occurrences j i 0 j.length 1).isEmpty)) H
def rSgn (neg : Bool) : R2 := fun x y H Q => ∃ (c : Nat) (z : Str), x = .str ⟨#[c]⟩ ∧ y = .str z ∧ Q (.bl (if neg then !decide (c ∈ z.cps.toList) else decide (c ∈ z.cps.toList))) H
def rInT (K : PySem.W.Frag) (neg : Bool) : R2 := fun x y H Q => rDIn neg x y H Q ∨ rOcc neg x y H Q ∨ rSgn neg x y H Q ∨ rIn K neg x y H Q ∨ (if neg then rNotInD K x y H Q else rInD K x y H Q)
def rCmp (K : PySem.W.Frag) : CmpOp → R2
  | .Lt => fun x y H Q => rI0 (fun i j => .bl (decide (i < j))) x y H Q ∨ rLtT K x y H Q
  | .LtE => fun x y H Q => rI0 (fun i j => .bl (decide (i ≤ j))) x y H Q ∨ rLeT K x y H Q
  | .Gt => rI0 fun i j => .bl (decide (i > j))
  | .GtE => rI0 fun i j => .bl (decide (i ≥ j))
  | .Eq => rEqD K
  | .NotEq => rNeD K
  | .Is => fun x y H Q => y = .non ∧ Q (.bl (decide (x = .non))) H
  | .IsNot => fun x y H Q => y = .non ∧ Q (.bl (!decide (x = .non))) H
  | .In => rInT K false
  | .NotIn => rInT K true
theorem rCmp_ok {X : Cx} (hu : X.A.units + 65 < cLine) (op : CmpOp) : OpR X (compareOp op) (rCmp X.K op) := by
  cases op with
  | Lt => exact OpR.or op_lt (op_ltT (by omega))
  | LtE => exact OpR.or op_le (op_leT (by omega))
  | Gt => exact op_gt
  | GtE => exact op_ge
  | Eq => exact op_eqD (by omega)
  | NotEq => exact op_neD (by omega)
  | Is => exact op_isN
  | IsNot => exact op_notN
  | In => exact (op_dIn (by omega)).or (OpR.or op_in_str (OpR.or op_in_sign (OpR.or op_in_seq (op_inD hu))))
  | NotIn => exact (op_dNotIn (by omega)).or (OpR.or op_notin_str (OpR.or op_notIn_sign (OpR.or op_notIn_seq (op_notInD hu))))
theorem isNon_rep {K : PySem.W.Frag} {H : Hp} {d : D} {v : V} {f : List Addr} (r : Rep K H d v f) : decide (v = V.non) = isNon d := by
  cases r <;> simp [isNon]
theorem inD_ok {K : PySem.W.Frag} {H : Hp} {neg : Bool} {d1 d2 : D} {v1 v2 : V} {f1 f2 : List Addr} {b : Bool} {Q : VK} (r1 : Rep K H d1 v1 f1) (r2 : Rep K H d2 v2 f2) (e : inD d1 d2 = some b) (h : Q (.bl (if neg then !b else b)) H) : rInT K neg v1 v2 H Q := by
  cases d2 with
  | dic kvs =>
    cases k : keyD d1 with
    | none => simp [inD, k] at e
    | some k' =>
      simp only [inD, k, Option.map_some, Option.some.injEq] at e
      subst e
      cases r2 with
      | dic h2 _ q2 =>
      have ev := keyD_rep r1 k
      subst ev
      refine .inl ⟨_, _, rfl, DGet.k h2, ?_⟩
      rcases q2.val k' with ⟨e1, e2⟩ | ⟨_, _, _, e1, e2, _⟩
      · rw [e1] at h; rw [e2]; exact h
      · rw [e1] at h; rw [e2]; exact h
  | fdc kvs =>
    cases k : keyD d1 with
    | none => simp [inD, k] at e
    | some k' =>
      simp only [inD, k, Option.map_some, Option.some.injEq] at e
      subst e
      cases r2 with
      | fdc h2 _ q2 =>
      have ev := keyD_rep r1 k
      subst ev
      refine .inl ⟨_, _, rfl, .inl ⟨_, k', .inr ⟨_, h2⟩, rfl, rfl⟩, ?_⟩
      rcases q2.val k' with ⟨e1, e2⟩ | ⟨_, _, _, e1, e2, _⟩
      · rw [e1] at h; rw [e2]; exact h
      · rw [e1] at h; rw [e2]; exact h
  | dtk kvs =>
    cases k : keyT d1 with
    | none => simp [inD, k] at e
    | some k' =>
      simp only [inD, k, Option.map_some, Option.some.injEq] at e
      subst e
      cases r2 with
      | dtk h2 _ q2 =>
      obtain ⟨b, ev, eb⟩ := keyT_rep r1 k
      subst ev
      refine .inl ⟨_, _, rfl, DGet.t h2 eb, ?_⟩
      rcases q2.val k' with ⟨e1, e2⟩ | ⟨_, _, _, e1, e2, _⟩
      · rw [e1] at h; rw [e2]; exact h
      · rw [e1] at h; rw [e2]; exact h
  | str z =>
    cases d1 with
    | str s =>
      cases r1; cases r2
      obtain ⟨⟨l⟩⟩ := s
      cases l with
      | nil =>
        simp only [inD, Option.some.injEq] at e
        subst e
        exact .inr (.inl ⟨_, _, rfl, rfl, h⟩)
      | cons c l =>
        cases l with
        | nil =>
          simp only [inD, Option.some.injEq] at e
          subst e
          exact .inr (.inr (.inl ⟨c, z, rfl, rfl, h⟩))
        | cons c2 l =>
          simp only [inD, Option.some.injEq] at e
          subst e
          exact .inr (.inl ⟨_, _, rfl, rfl, h⟩)
    | _ => simp [inD] at e
  | tup ds =>
    cases h1 : fV d1 with
    | none => simp [inD, h1] at e
    | some v =>
      cases h2 : fVs ds with
      | none => simp [inD, h1, h2] at e
      | some vs =>
        simp only [inD, h1, h2, Option.some.injEq] at e
        subst e
        cases r2 with
        | tup t q =>
        obtain ⟨e1, e2⟩ := r1.fV h1
        obtain ⟨e3, e4⟩ := q.fV h2
        subst e1; subst e3
        exact .inr (.inr (.inr (.inl ⟨_, _, rfl, .inr (.of t), e2, e4, h⟩)))
  | lst ds =>
    cases h1 : toP d1 with
    | none => simp [inD, h1] at e
    | some p =>
      cases h2 : toPs ds with
      | none => simp [inD, h1, h2] at e
      | some ps =>
        simp only [inD, h1, h2] at e
        split at e
        · rename_i z1
          split at e
          · rename_i z2
            cases e
            obtain ⟨a, vs, g, rfl, t, q, _, _⟩ := r2.lstI
            refine .inr (.inr (.inr (.inr ?_)))
            cases neg with
            | false => exact ⟨p, ps, r1.dp h1, .lst t (q.dp h2), z1, z2, h⟩
            | true => exact ⟨p, ps, r1.dp h1, .lst t (q.dp h2), z1, z2, h⟩
          · cases e
        · cases e
  | _ => cases d1 <;> simp [inD] at e
theorem eqD_ok {K : PySem.W.Frag} {H : Hp} {d1 d2 : D} {v1 v2 : V} {f1 f2 : List Addr} {b : Bool} (r1 : Rep K H d1 v1 f1) (r2 : Rep K H d2 v2 f2) (e : eqD d1 d2 = some b) : ∃ p q, Dp K H v1 p ∧ Dp K H v2 q ∧ SeqAt.shaped p = true ∧ SeqAt.shaped q = true ∧ PyData.eqv p q = b := by
  cases h1 : toP d1 with
  | none => simp [eqD, h1] at e
  | some p =>
    cases h2 : toP d2 with
    | none => simp [eqD, h1, h2] at e
    | some q =>
      simp only [eqD, h1, h2] at e
      split at e
      · rename_i z1
        split at e
        · rename_i z2
          cases e
          exact ⟨p, q, r1.dp h1, r2.dp h2, z1, z2, rfl⟩
        · cases e
      · cases e
theorem cmpB_ok {K : PySem.W.Frag} {H : Hp} {op : CmpOp} {d1 d2 : D} {v1 v2 : V} {f1 f2 : List Addr} {b : Bool} {Q : VK} (r1 : Rep K H d1 v1 f1) (r2 : Rep K H d2 v2 f2) (e : cmpB op d1 d2 = some b) (h : Q (.bl b) H) : rCmp K op v1 v2 H Q := by
  have intz : ∀ {p : Int → Int → Bool}, (∀ i j, d1 = .int i → d2 = .int j → p i j = b) → (∃ i, d1 = .int i) → (∃ j, d2 = .int j) → rI0 (fun i j => .bl (p i j)) v1 v2 H Q := fun {p} hp ⟨i, e1⟩ ⟨j, e2⟩ => by
    have := hp i j e1 e2
    subst e1; subst e2; cases r1; cases r2
    exact ⟨_, _, rfl, rfl, by show Q (.bl (p i j)) H; rw [this]; exact h⟩
  cases op with
  | Eq => obtain ⟨p, q, h1, h2, z1, z2, e'⟩ := eqD_ok r1 r2 e; exact ⟨p, q, h1, h2, z1, z2, by rw [e']; exact h⟩
  | NotEq =>
    cases e0 : eqD d1 d2 with
    | none => simp [cmpB, e0] at e
    | some b0 =>
      simp only [cmpB, e0, Option.map_some, Option.some.injEq] at e
      subst e
      obtain ⟨p, q, h1, h2, z1, z2, e'⟩ := eqD_ok r1 r2 e0; exact ⟨p, q, h1, h2, z1, z2, by rw [e']; exact h⟩
  | In => exact inD_ok r1 r2 e h
  | NotIn =>
    cases e0 : inD d1 d2 with
    | none => simp [cmpB, e0] at e
    | some b0 =>
      simp only [cmpB, e0, Option.map_some, Option.some.injEq] at e
      subst e
      exact inD_ok r1 r2 e0 h
  | Is =>
    cases d2 with
    | non => simp only [cmpB, Option.some.injEq] at e; subst e; cases r2; exact ⟨rfl, by rw [isNon_rep r1]; exact h⟩
    | _ => simp [cmpB] at e
  | IsNot =>
    cases d2 with
    | non => simp only [cmpB, Option.some.injEq] at e; subst e; cases r2; exact ⟨rfl, by rw [isNon_rep r1]; exact h⟩
    | _ => simp [cmpB] at e
  | Lt =>
    cases d1 with
    | int i => cases d2 with
      | int j => simp only [cmpB, Option.some.injEq] at e; exact .inl (intz (fun i' j' e1 e2 => by cases e1; cases e2; exact e) ⟨_, rfl⟩ ⟨_, rfl⟩)
      | _ => simp [cmpB] at e
    | tup ds => cases d2 with
      | tup es =>
        cases h1 : intsD ds with
        | none => simp [cmpB, h1] at e
        | some ns =>
          cases h2 : intsD es with
          | none => simp [cmpB, h1, h2] at e
          | some ms =>
            simp only [cmpB, h1, h2, Option.bind_some, Option.map_some, Option.some.injEq] at e
            subst e
            have e1 := intsD_eq h1
            have e2 := intsD_eq h2
            subst e1; subst e2
            cases r1 with
            | tup t1 q1 =>
            cases r2 with
            | tup t2 q2 =>
            obtain ⟨v1, _⟩ := q1.ints_inv
            obtain ⟨v2, _⟩ := q2.ints_inv
            subst v1; subst v2
            exact .inr ⟨_, _, ns, ms, rfl, rfl, .of t1, .of t2, h⟩
      | _ => simp [cmpB] at e
    | _ => cases d2 <;> simp [cmpB] at e
  | LtE =>
    cases d1 with
    | int i => cases d2 with
      | int j => simp only [cmpB, Option.some.injEq] at e; exact .inl (intz (fun i' j' e1 e2 => by cases e1; cases e2; exact e) ⟨_, rfl⟩ ⟨_, rfl⟩)
      | _ => simp [cmpB] at e
    | tup ds => cases d2 with
      | tup es =>
        cases h1 : intsD ds with
        | none => simp [cmpB, h1] at e
        | some ns =>
          cases h2 : intsD es with
          | none => simp [cmpB, h1, h2] at e
          | some ms =>
            simp only [cmpB, h1, h2, Option.bind_some, Option.map_some, Option.some.injEq] at e
            subst e
            have e1 := intsD_eq h1
            have e2 := intsD_eq h2
            subst e1; subst e2
            cases r1 with
            | tup t1 q1 =>
            cases r2 with
            | tup t2 q2 =>
            obtain ⟨v1, _⟩ := q1.ints_inv
            obtain ⟨v2, _⟩ := q2.ints_inv
            subst v1; subst v2
            exact .inr ⟨_, _, ns, ms, rfl, rfl, .of t1, .of t2, h⟩
      | _ => simp [cmpB] at e
    | _ => cases d2 <;> simp [cmpB] at e
  | Gt =>
    cases d1 with
    | int i => cases d2 with
      | int j => simp only [cmpB, Option.some.injEq] at e; exact intz (fun i' j' e1 e2 => by cases e1; cases e2; exact e) ⟨_, rfl⟩ ⟨_, rfl⟩
      | _ => simp [cmpB] at e
    | _ => cases d2 <;> simp [cmpB] at e
  | GtE =>
    cases d1 with
    | int i => cases d2 with
      | int j => simp only [cmpB, Option.some.injEq] at e; exact intz (fun i' j' e1 e2 => by cases e1; cases e2; exact e) ⟨_, rfl⟩ ⟨_, rfl⟩
      | _ => simp [cmpB] at e
    | _ => cases d2 <;> simp [cmpB] at e
/-! ### tests -/
def cmpT (op : CmpOp) (a b : SE) : STs := fun ρ => (a ρ).bind fun x => (b ρ).bind fun y => R.of (cmpB op x.2 y.2)
def chnT (o1 o2 : CmpOp) (a b c : SE) : STs := fun ρ => (a ρ).bind fun x => (b ρ).bind fun y => (R.of (cmpB o1 x.2 y.2)).bind fun t =>
  if t = true then (c ρ).bind fun z => R.of (cmpB o2 y.2 z.2) else .ok false
def andT (a b : STs) : STs := fun ρ => (a ρ).bind fun t => if t = true then b ρ else .ok false
def orT (a b : STs) : STs := fun ρ => (a ρ).bind fun t => if t = true then .ok true else b ρ
def notT (a : STs) : STs := fun ρ => (a ρ).bind fun t => .ok (!t)
def truD : D → Option Bool
  | .non => some false
  | .bl b => some b
  | .int i => some (i != 0)
  | .str y => if y.length ≤ LIM then some ((y.length : Int) != 0) else none
  | .tup ds => some (!ds.isEmpty)
  | .lst ds => some (!ds.isEmpty)
  | .scr ds => some (!ds.isEmpty)
  | .dic kvs => some (!kvs.isEmpty)
  | _ => none
def valT (a : SE) : STs := fun ρ => (a ρ).bind fun x => R.of (truD x.2)
/-- a test as a value -/
def boolE (t : STs) : SE := fun ρ => (t ρ).bind fun b => .ok (.own, .bl b)
def iteE (t : STs) (a b : SE) : SE := fun ρ => (t ρ).bind fun c => if c = true then a ρ else b ρ
def negE (a : SE) : SE := fun ρ => (a ρ).bind fun x => match x.2 with
  | .int i => .ok (.own, .int (-i))
  | _ => .st
theorem Reps.isEmpty {K : PySem.W.Frag} {H : Hp} {ds : List D} {vs : List V} {f : List Addr} (r : Reps K H ds vs f) : vs.isEmpty = ds.isEmpty := by cases r <;> rfl
theorem RepK.isEmpty {K : PySem.W.Frag} {H : Hp} {ds : List (Key × D)} {vs : List (Key × V)} {f : List Addr} (r : RepK K H ds vs f) : vs.isEmpty = ds.isEmpty := by cases r <;> rfl
theorem truD_ok {K : PySem.W.Frag} {H : Hp} {d : D} {v : V} {f : List Addr} {b : Bool} (r : Rep K H d v f) (e : truD d = some b) : TruV K v H b := by
  cases r with
  | non => simp only [truD, Option.some.injEq] at e; exact e.symm
  | bl b => simp only [truD, Option.some.injEq] at e; exact e.symm
  | int i => simp only [truD, Option.some.injEq] at e; exact e.symm
  | str x =>
    simp only [truD] at e
    split at e
    · rename_i hz; cases e; exact ⟨by rw [← lim_eq]; exact hz, rfl⟩
    · cases e
  | tup t q => simp only [truD, Option.some.injEq] at e; exact .inr (.inl ⟨_, .of t, by rw [q.isEmpty]; exact e.symm⟩)
  | lst t q => simp only [truD, Option.some.injEq] at e; exact .inl ⟨_, .of t, by rw [q.isEmpty]; exact e.symm⟩
  | scw t q => simp only [truD, Option.some.injEq] at e; exact .inl ⟨_, .of t, by rw [q.isEmpty]; exact e.symm⟩
  | scr t q =>
    simp only [truD, Option.some.injEq] at e
    rcases t with t | ⟨o, t⟩
    · exact .inl ⟨_, t _, by rw [q.isEmpty]; exact e.symm⟩
    · exact .inl ⟨_, .inl (.inr ⟨o, t⟩), by rw [q.isEmpty]; exact e.symm⟩
  | dic t _ q => simp only [truD, Option.some.injEq] at e; exact .inr (.inr ⟨_, t, by rw [q.isEmpty]; exact e.symm⟩)
  | _ => simp [truD] at e
section
variable {X : Cx} {CA : String → Addr} {W : WX} {pos : Pos} {a b c : Expr} {sa sb sc : SE} {ta tb : STs} {rest : List Expr}
theorem t_cmp {op : CmpOp} (hu : X.A.units + 65 < cLine) (ha : PE X a (tE X.K CA W sa)) (hb : PE X b (tE X.K CA W sb)) (hm : behindInMarks op b = false := by first | exact nomark _ | rfl) : PT X (.Compare a [op] [b] pos) (tT X.K CA W (cmpT op sa sb)) := by
  refine ptI (pt_cmpR (rCmp_ok hu op) ha hb hm) fun σ H Q ⟨A, H0, F, G, ρ, sr, h⟩ => ?_
  refine ⟨A, H0, F, G, ρ, sr, h.bind fun ⟨k1, d1⟩ h1 => ?_⟩
  intro v1 H1 f1 s1 r1 o1
  refine ⟨A, H0, F, G, ρ, sr.same s1, (h1.later s1).bind fun ⟨k2, d2⟩ h2 => ?_⟩
  intro v2 H2 f2 s2 r2 o2
  obtain ⟨t, e, h3⟩ := h2.of
  exact cmpB_ok (r1.same s2) r2 e ⟨t, rfl, h3 H2 (s1.trans s2)⟩
theorem e_cmp {op : CmpOp} (hu : X.A.units + 65 < cLine) (ha : PE X a (tE X.K CA W sa)) (hb : PE X b (tE X.K CA W sb)) (hm : behindInMarks op b = false := by first | exact nomark _ | rfl) : PE X (.Compare a [op] [b] pos) (tE X.K CA W (boolE (cmpT op sa sb))) := by
  refine peI (pe_cmpR (rCmp_ok hu op) ha hb hm) fun σ H Q ⟨A, H0, F, G, ρ, sr, h⟩ => ?_
  have h : Post X.K CA W σ H ((sa ρ).bind fun x => (sb ρ).bind fun y => (R.of (cmpB op x.2 y.2)).bind fun b => .ok ((Kd.own, D.bl b) : KD)) (fun kd => Cont X.K A H0 F H kd Q) := by
    have e : boolE (cmpT op sa sb) ρ = ((sa ρ).bind fun x => (sb ρ).bind fun y => (R.of (cmpB op x.2 y.2)).bind fun b => .ok ((Kd.own, D.bl b) : KD)) := by
      unfold boolE cmpT
      cases sa ρ with
      | ok x => cases sb ρ <;> rfl
      | _ => rfl
    rw [e] at h
    exact h
  refine ⟨A, H0, F, G, ρ, sr, h.bind fun ⟨k1, d1⟩ h1 => ?_⟩
  intro v1 H1 f1 s1 r1 o1
  refine ⟨A, H0, F, G, ρ, sr.same s1, (h1.later s1).bind fun ⟨k2, d2⟩ h2 => ?_⟩
  intro v2 H2 f2 s2 r2 o2
  obtain ⟨t, e, h3⟩ := h2.ofB
  exact cmpB_ok (r1.same s2) r2 e (Cont.atom h3 (s1.trans s2) (.bl t))
theorem t_chn {o1 o2 : CmpOp} (hu : X.A.units + 65 < cLine) (ha : PE X a (tE X.K CA W sa)) (hb : PE X b (tE X.K CA W sb)) (hc : PE X c (tE X.K CA W sc)) (hm : lastMarks [o1, o2] [b, c] = false := by with_unfolding_all rfl) :
    PT X (.Compare a [o1, o2] [b, c] pos) (tT X.K CA W (chnT o1 o2 sa sb sc)) := by
  refine ptI (pt_chain (rCmp_ok hu o1) (rCmp_ok hu o2) ha hb hc hm) fun σ H Q ⟨A, H0, F, G, ρ, sr, h⟩ => ?_
  refine ⟨A, H0, F, G, ρ, sr, h.bind fun ⟨k1, d1⟩ h1 => ?_⟩
  intro v1 H1 f1 s1 r1 o1'
  refine ⟨A, H0, F, G, ρ, sr.same s1, (h1.later s1).bind fun ⟨k2, d2⟩ h2 => ?_⟩
  intro v2 H2 f2 s2 r2 o2'
  obtain ⟨t, e, h3⟩ := h2.ofB
  refine cmpB_ok (r1.same s2) r2 e ⟨t, rfl, ?_⟩
  cases t with
  | false => exact ⟨false, rfl, h3 H2 (s1.trans s2)⟩
  | true =>
    refine ⟨A, H0, F, G, ρ, (sr.same s1).same s2, ((h3.later s2).bind fun ⟨k3, d3⟩ h4 => ?_)⟩
    intro v3 H3 f3 s3 r3 o3
    obtain ⟨t, e, h5⟩ := h4.of
    exact cmpB_ok (r2.same s3) r3 e ⟨t, rfl, h5 H3 ((s1.trans s2).trans s3)⟩
theorem e_chn {o1 o2 : CmpOp} (hu : X.A.units + 65 < cLine) (ha : PE X a (tE X.K CA W sa)) (hb : PE X b (tE X.K CA W sb)) (hc : PE X c (tE X.K CA W sc)) (hm : lastMarks [o1, o2] [b, c] = false := by with_unfolding_all rfl) :
    PE X (.Compare a [o1, o2] [b, c] pos) (tE X.K CA W (boolE (chnT o1 o2 sa sb sc))) := by
  refine peI (pe_chain (rCmp_ok hu o1) (rCmp_ok hu o2) ha hb hc hm) fun σ H Q ⟨A, H0, F, G, ρ, sr, h⟩ => ?_
  have h : Post X.K CA W σ H ((sa ρ).bind fun x => (sb ρ).bind fun y => (R.of (cmpB o1 x.2 y.2)).bind fun t => if t = true then (sc ρ).bind fun z => (R.of (cmpB o2 y.2 z.2)).bind fun b => .ok ((Kd.own, D.bl b) : KD) else .ok ((Kd.own, D.bl false) : KD)) (fun kd => Cont X.K A H0 F H kd Q) := by
    have e : boolE (chnT o1 o2 sa sb sc) ρ = ((sa ρ).bind fun x => (sb ρ).bind fun y => (R.of (cmpB o1 x.2 y.2)).bind fun t => if t = true then (sc ρ).bind fun z => (R.of (cmpB o2 y.2 z.2)).bind fun b => .ok ((Kd.own, D.bl b) : KD) else .ok ((Kd.own, D.bl false) : KD)) := by
      unfold boolE chnT
      cases sa ρ with
      | ok x =>
        cases sb ρ with
        | ok y =>
          simp only [R.bind]
          cases cmpB o1 x.2 y.2 with
          | none => rfl
          | some t =>
            cases t with
            | false => rfl
            | true => simp only [R.of, R.bind, if_true]; cases sc ρ <;> rfl
        | _ => rfl
      | _ => rfl
    rw [e] at h
    exact h
  refine ⟨A, H0, F, G, ρ, sr, h.bind fun ⟨k1, d1⟩ h1 => ?_⟩
  intro v1 H1 f1 s1 r1 o1'
  refine ⟨A, H0, F, G, ρ, sr.same s1, (h1.later s1).bind fun ⟨k2, d2⟩ h2 => ?_⟩
  intro v2 H2 f2 s2 r2 o2'
  obtain ⟨t, e, h3⟩ := h2.ofB
  refine cmpB_ok (r1.same s2) r2 e ⟨t, rfl, ?_⟩
  cases t with
  | false => exact Cont.atom h3 (s1.trans s2) (.bl false)
  | true =>
    refine ⟨A, H0, F, G, ρ, (sr.same s1).same s2, ((h3.later s2).bind fun ⟨k3, d3⟩ h4 => ?_)⟩
    intro v3 H3 f3 s3 r3 o3
    obtain ⟨t, e, h5⟩ := h4.ofB
    exact cmpB_ok (r2.same s3) r3 e (Cont.atom h5 ((s1.trans s2).trans s3) (.bl t))
theorem tw_and1 (ha : PT X a (tT X.K CA W ta)) : PW X (.BoolOp .And [a] pos) (tT X.K CA W ta) := pw_and1 ha
theorem tw_or1 (ha : PT X a (tT X.K CA W ta)) : PW X (.BoolOp .Or [a] pos) (tT X.K CA W ta) := pw_or1 ha
theorem tw_and (ha : PT X a (tT X.K CA W ta)) (hb : PW X (.BoolOp .And (b :: rest) pos) (tT X.K CA W tb)) : PW X (.BoolOp .And (a :: b :: rest) pos) (tT X.K CA W (andT ta tb)) := by
  refine pwI (pw_and ha hb) fun σ H Q ⟨A, H0, F, G, ρ, sr, h⟩ => ?_
  refine ⟨A, H0, F, G, ρ, sr, h.bind fun t h1 H1 s1 => ?_⟩
  cases t with
  | true => exact ⟨A, H0, F, G, ρ, sr.same s1, (h1.later s1).imp fun b _ q H2 s2 => q H2 (s1.trans s2)⟩
  | false => exact h1 H1 s1
theorem tw_or (ha : PT X a (tT X.K CA W ta)) (hb : PW X (.BoolOp .Or (b :: rest) pos) (tT X.K CA W tb)) : PW X (.BoolOp .Or (a :: b :: rest) pos) (tT X.K CA W (orT ta tb)) := by
  refine pwI (pw_or ha hb) fun σ H Q ⟨A, H0, F, G, ρ, sr, h⟩ => ?_
  refine ⟨A, H0, F, G, ρ, sr, h.bind fun t h1 H1 s1 => ?_⟩
  cases t with
  | false => exact ⟨A, H0, F, G, ρ, sr.same s1, (h1.later s1).imp fun b _ q H2 s2 => q H2 (s1.trans s2)⟩
  | true => exact h1 H1 s1
theorem t_pw (h : PW X a (tT X.K CA W ta)) : PT X a (tT X.K CA W ta) := h.pt
theorem t_not (ha : PT X a (tT X.K CA W ta)) : PT X (.UnaryOp .Not a pos) (tT X.K CA W (notT ta)) := by
  refine ptI (pt_not ha) fun σ H Q ⟨A, H0, F, G, ρ, sr, h⟩ => ?_
  exact ⟨A, H0, F, G, ρ, sr, h.bind fun t h1 => h1⟩
theorem t_val (ha : PE X a (tE X.K CA W sa)) (he : ∀ whole, isTrue a X.env whole = (do let v ← whole; standAt a.pos; holding [v] (truthy v)) := by intro _; rfl) : PT X a (tT X.K CA W (valT sa)) := by
  refine ptI (pt_truth ha he) fun σ H Q ⟨A, H0, F, G, ρ, sr, h⟩ => ?_
  refine ⟨A, H0, F, G, ρ, sr, h.bind fun ⟨k, d⟩ h1 => ?_⟩
  intro v H1 f s1 r o
  obtain ⟨t, e, h2⟩ := h1.of
  exact ⟨t, truD_ok r e, h2 H1 s1⟩
/-- and, or, not as values, all bools -/
theorem eb_one {op} {t : STs} (h : PE X a (tE X.K CA W (boolE t))) : PE X (.BoolOp op [a] pos) (tE X.K CA W (boolE t)) := pe_one h
theorem eb_and {t u : STs} (ha : PE X a (tE X.K CA W (boolE t))) (hb : PE X (.BoolOp .And (b :: rest) pos) (tE X.K CA W (boolE u))) : PE X (.BoolOp .And (a :: b :: rest) pos) (tE X.K CA W (boolE (andT t u))) := by
  refine peI (pe_and ha hb) fun σ H Q ⟨A, H0, F, G, ρ, sr, h⟩ => ?_
  have e : boolE (andT t u) ρ = (boolE t ρ).bind fun x => match x.2 with | .bl true => boolE u ρ | .bl false => .ok (.own, .bl false) | _ => .st := by
    unfold boolE andT
    cases t ρ with
    | ok x => cases x <;> rfl
    | _ => rfl
  rw [e] at h
  refine ⟨A, H0, F, G, ρ, sr, h.bind fun ⟨k, d⟩ h1 => ?_⟩
  intro v H1 f s1 r o
  cases d with
  | bl c =>
    cases r
    refine ⟨c, rfl, ?_⟩
    cases c with
    | true => exact ⟨A, H0, F, G, ρ, sr.same s1, (h1.later s1).imp fun kd _ q v H2 f s2 r2 o2 => q v H2 f (s1.trans s2) r2 (o2.wide s1 (Same.refl _))⟩
    | false => exact Cont.atom h1 s1 (.bl false)
  | _ => exact h1.elim
theorem eb_or {t u : STs} (ha : PE X a (tE X.K CA W (boolE t))) (hb : PE X (.BoolOp .Or (b :: rest) pos) (tE X.K CA W (boolE u))) : PE X (.BoolOp .Or (a :: b :: rest) pos) (tE X.K CA W (boolE (orT t u))) := by
  refine peI (pe_or ha hb) fun σ H Q ⟨A, H0, F, G, ρ, sr, h⟩ => ?_
  have e : boolE (orT t u) ρ = (boolE t ρ).bind fun x => match x.2 with | .bl false => boolE u ρ | .bl true => .ok (.own, .bl true) | _ => .st := by
    unfold boolE orT
    cases t ρ with
    | ok x => cases x <;> rfl
    | _ => rfl
  rw [e] at h
  refine ⟨A, H0, F, G, ρ, sr, h.bind fun ⟨k, d⟩ h1 => ?_⟩
  intro v H1 f s1 r o
  cases d with
  | bl c =>
    cases r
    refine ⟨c, rfl, ?_⟩
    cases c with
    | false => exact ⟨A, H0, F, G, ρ, sr.same s1, (h1.later s1).imp fun kd _ q v H2 f s2 r2 o2 => q v H2 f (s1.trans s2) r2 (o2.wide s1 (Same.refl _))⟩
    | true => exact Cont.atom h1 s1 (.bl true)
  | _ => exact h1.elim
theorem eb_not {t : STs} (ha : PE X a (tE X.K CA W (boolE t))) : PE X (.UnaryOp .Not a pos) (tE X.K CA W (boolE (notT t))) := by
  refine peI (pe_not ha) fun σ H Q ⟨A, H0, F, G, ρ, sr, h⟩ => ?_
  have e : boolE (notT t) ρ = (boolE t ρ).bind fun x => match x.2 with | .bl c => .ok (.own, .bl (!c)) | _ => .st := by
    unfold boolE notT
    cases t ρ <;> rfl
  rw [e] at h
  refine ⟨A, H0, F, G, ρ, sr, h.bind fun ⟨k, d⟩ h1 => ?_⟩
  intro v H1 f s1 r o
  cases d with
  | bl c => cases r; exact ⟨c, rfl, Cont.atom h1 s1 (.bl _)⟩
  | _ => exact h1.elim
/-- a value that is a bool -/
def bvT (a : SE) : STs := fun ρ => (a ρ).bind fun x => match x.2 with
  | .bl b => .ok b
  | _ => .st
theorem eb_val (ha : PE X a (tE X.K CA W sa)) : PE X a (tE X.K CA W (boolE (bvT sa))) := by
  refine peI ha fun σ H Q ⟨A, H0, F, G, ρ, sr, h⟩ => ?_
  have e : boolE (bvT sa) ρ = (sa ρ).bind fun x => match x.2 with | .bl c => .ok (.own, .bl c) | _ => .st := by
    unfold boolE bvT
    cases sa ρ with
    | ok x => obtain ⟨k, d⟩ := x; cases d <;> rfl
    | _ => rfl
  rw [e] at h
  refine ⟨A, H0, F, G, ρ, sr, h.bind fun ⟨k, d⟩ h1 => ?_⟩
  intro v H1 f s1 r o
  cases d with
  | bl c => cases r; exact Cont.atom h1 s1 (.bl _)
  | _ => exact h1.elim
theorem e_ite (hc : PT X c (tT X.K CA W ta)) (ha : PE X a (tE X.K CA W sa)) (hb : PE X b (tE X.K CA W sb)) : PE X (.IfExp c a b pos) (tE X.K CA W (iteE ta sa sb)) := by
  refine peI (pe_ifExp hc ha hb) fun σ H Q ⟨A, H0, F, G, ρ, sr, h⟩ => ?_
  refine ⟨A, H0, F, G, ρ, sr, h.bind fun t h1 H1 s1 => ?_⟩
  cases t with
  | true => exact ⟨A, H0, F, G, ρ, sr.same s1, (h1.later s1).imp fun kd _ q v H2 f s2 r2 o2 => q v H2 f (s1.trans s2) r2 (o2.wide s1 (Same.refl _))⟩
  | false => exact ⟨A, H0, F, G, ρ, sr.same s1, (h1.later s1).imp fun kd _ q v H2 f s2 r2 o2 => q v H2 f (s1.trans s2) r2 (o2.wide s1 (Same.refl _))⟩
theorem e_neg (ha : PE X a (tE X.K CA W sa)) : PE X (.UnaryOp .USub a pos) (tE X.K CA W (negE sa)) := by
  refine peI (pe_un un_neg ha) fun σ H Q ⟨A, H0, F, G, ρ, sr, h⟩ => ?_
  refine ⟨A, H0, F, G, ρ, sr, h.bind fun ⟨k, d⟩ h1 => ?_⟩
  intro v H1 f s1 r o
  cases d with
  | int i => cases r; exact ⟨i, rfl, Cont.atom h1 s1 (.int _)⟩
  | _ => exact h1.elim
end
end Cz
set_option maxHeartbeats 4000000
/-! Cz4: displays, subscripts, slices, calls of defs and of builtins. -/
namespace Cz
open PySem PySem.Spec PyProof.Rows L2
/-! ### argument lists, displays -/
/-- what has no lists is nobody's -/
def nk (k : Kd) (d : D) : Kd := if noL d = true then .own else k
theorem KOk.nk {K : PySem.W.Frag} {A : Addr → Prop} {H0 H H1 H2 : Hp} {F : Nat → List Addr} {k : Kd} {d : D} {v : V} {f : List Addr} (r : Rep K H2 d v f) (o : KOk A H0 F H H1 k f) : KOk A H0 F H H1 (nk k d) f := by
  unfold Cz.nk
  split
  · rename_i hz; rw [Rep.noL r hz]; exact KOk.nil _
  · exact o
theorem KOk.nk' {K : PySem.W.Frag} {A : Addr → Prop} {H0 H H1 H2 : Hp} {F : Nat → List Addr} {k : Kd} {d : D} {v : V} {f : List Addr} (r : Rep K H2 d v f) (o : KOk A H0 F H H1 (Cz.nk k d) f) : KOk A H0 F H H1 k f := by
  unfold Cz.nk at o
  split at o
  · rename_i hz; rw [Rep.noL r hz]; exact KOk.nil _
  · exact o
def jn : List KD → Kd
  | [] => .own
  | x :: r => (nk x.1 x.2).join (jn r)
def tA (K : PySem.W.Frag) (CA : String → Addr) (W : WX) (s : SA) : TA := fun σ H Q =>
  ∃ A H0 F G ρ, SR K A H0 F G ρ σ H ∧ Post K CA W σ H (s ρ) fun xs => ∀ vs H' f, Same H H' → Reps K H' (xs.map (·.2)) vs f → KOk A H0 F H H' (jn xs) f → Q vs H'
def nilA : SA := fun _ => .ok []
def consA (a : SE) (r : SA) : SA := fun ρ => (a ρ).bind fun x => (r ρ).bind fun xs => .ok (x :: xs)
def tupE (s : SA) : SE := fun ρ => (s ρ).bind fun xs => if xs.length ≤ LIM then .ok (jn xs, .tup (xs.map (·.2))) else .st
def lstE (s : SA) : SE := fun ρ => (s ρ).bind fun xs => if xs.length ≤ LIM then .ok (lk (jn xs) (xs.map (·.2)), .lst (xs.map (·.2))) else .st
def dnwE : SE := fun _ => .ok (.own, .dic [])
def idxB : KD → D → Option KD
  | (k, .lst ds), .int i => (atI ds i).map fun d => (k, d)
  | (k, .scr ds), .int i => (atI ds i).map fun d => (k, d)
  | (k, .tup ds), .int i => (atI ds i).map fun d => (k, d)
  | (_, .str z), .int i => if z.length ≤ LIM then (atI z.cps.toList i).map fun c => (.own, .str ⟨#[c]⟩) else none
  | (k, .dic kvs), y => (keyD y).bind fun q => (valD kvs q).map fun d => (k, d)
  | (_, .fdc kvs), y => (keyD y).bind fun q => (valD kvs q).map fun d => (.own, d)
  | (k, .dtk kvs), y => (keyT y).bind fun q => (valD kvs q).map fun d => (k, d)
  | _, _ => none
def idxE (a b : SE) : SE := fun ρ => (a ρ).bind fun x => (b ρ).bind fun y => R.of (idxB x y.2)
def cutD (ds : List D) (lo hi : Option Int) : List D := (ds.drop (HT.sIx ds.length 0 lo)).take (HT.sIx ds.length ds.length hi - HT.sIx ds.length 0 lo)
def slB : KD → Option Int → Option Int → Option KD
  | (k, .lst ds), lo, hi => some (lk k (cutD ds lo hi), .lst (cutD ds lo hi))
  | (k, .scr ds), lo, hi => some (lk k (cutD ds lo hi), .lst (cutD ds lo hi))
  | (k, .tup ds), lo, hi => some (k, .tup (cutD ds lo hi))
  | (_, .str z), lo, hi => if z.length ≤ LIM then some (.own, .str (cutS z lo hi)) else none
  | _, _, _ => none
abbrev SO := Env → R (Option Int)
def noO : SO := fun _ => .ok none
def someO (a : SE) : SO := fun ρ => (a ρ).bind fun x => match x.2 with
  | .int i => .ok (some i)
  | _ => .st
def slE (a : SE) (lo hi : SO) : SE := fun ρ => (a ρ).bind fun x => (lo ρ).bind fun l => (hi ρ).bind fun h => R.of (slB x l h)
def tO (K : PySem.W.Frag) (CA : String → Addr) (W : WX) (s : SO) : TO := fun σ H Q =>
  ∃ A H0 F G ρ, SR K A H0 F G ρ σ H ∧ Post K CA W σ H (s ρ) fun o => ∀ H', Same H H' → Q o H'
section
variable {K : PySem.W.Frag} {A : Addr → Prop} {H0 H H1 H2 : Hp} {F : Nat → List Addr} {G : List (D × V)} {ρ : Env} {σ : L2.St} {Q : VK}
theorem atI_rep {ds : List D} {vs : List V} {f : List Addr} {i : Int} {d : D} (r : Reps K H ds vs f) (e : atI ds i = some d) : ∃ v g, atI vs i = some v ∧ Rep K H d v g ∧ (∀ b ∈ g, b ∈ f) ∧ (f.Nodup → g.Nodup) := by
  unfold atI at e ⊢
  rw [← r.length]
  cases h : ixN ds.length i with
  | none => rw [h] at e; cases e
  | some j =>
    rw [h] at e
    exact r.get e
theorem cut_rep {ds : List D} {vs : List V} {f : List Addr} (lo hi : Option Int) (r : Reps K H ds vs f) : ∃ g, Reps K H (cutD ds lo hi) (cutV vs lo hi) g ∧ (∀ b ∈ g, b ∈ f) ∧ (f.Nodup → g.Nodup) := by
  unfold cutD cutV
  rw [← r.length]
  obtain ⟨g, h1, h2, h3⟩ := r.drop (HT.sIx ds.length 0 lo)
  obtain ⟨g', h4, h5, h6⟩ := h1.take (HT.sIx ds.length ds.length hi - HT.sIx ds.length 0 lo)
  exact ⟨g', h4, fun b hb => h2 b (h5 b hb), fun n => h6 (h3 n)⟩
end
/-- d[y] of a dict -/
def rIxD : R2 := fun x y H Q => ∃ a v, x = .ref a ∧ DGet H a y (some v) ∧ Q v H
theorem ix_dict {X : Cx} (hu : X.A.units + 1 < cLine) : IxR X rIxD := by
  intro value slice pins s σ H x y v u Q I rx ry h hs
  obtain ⟨a, w, rfl, g, q⟩ := h
  obtain rfl : v = Value.ref a := rx
  exact tail_any (dict_typeIs I g) PySem.F.slot_dict_getitem.lookup (d_getItem hu I g ry fun w' s3 I3 rw' => ⟨w, H, I3, rw', q⟩) hs
def rIxx (K : PySem.W.Frag) : R2 := fun x y H Q => rIx K x y H Q ∨ rIxD x y H Q
theorem ix_any {X : Cx} (hu : X.A.units + 1 < cLine) : IxR X (rIxx X.K) := ix_seq.or (ix_dict hu)
def rSlx (K : PySem.W.Frag) : V → Option Int → Option Int → Hp → VK → Prop := fun x lo hi H Q => rSlL K x lo hi H Q ∨ rSlA K x lo hi H Q ∨ rSlS x lo hi H Q
theorem sl_any {X : Cx} : SlR X (rSlx X.K) := sl_list.or (sl_tupA.or sl_str)
section
variable {K : PySem.W.Frag} {A : Addr → Prop} {H0 H H1 H2 : Hp} {F : Nat → List Addr} {G : List (D × V)} {ρ : Env} {σ : L2.St} {Q : VK}
theorem idxB_ok {k : Kd} {d1 d2 : D} {v1 v2 : V} {f1 f2 : List Addr} {kd : KD} (s1 : Same H H1) (s2 : Same H1 H2) (r1 : Rep K H1 d1 v1 f1) (r2 : Rep K H2 d2 v2 f2) (o1 : KOk A H0 F H H1 k f1)
    (e : idxB (k, d1) d2 = some kd) (h : Cont K A H0 F H kd Q) : rIxx K v1 v2 H2 Q := by
  have r1' := r1.same s2
  have s12 := s1.trans s2
  have o1' := o1.wide (Same.refl H) s2
  cases d1 with
  | lst ds =>
    cases d2 with
    | int i =>
      cases ha : atI ds i with
      | none => simp [idxB, ha] at e
      | some d =>
        simp only [idxB, ha, Option.map_some, Option.some.injEq] at e
        subst e
        obtain ⟨a, vs, g, rfl, t, q, i1, n1⟩ := r1'.lstI
        obtain ⟨v, g', h1, h2, h3, h4⟩ := atI_rep q ha
        cases r2
        exact .inl (.inl ⟨_, _, _, _, rfl, rfl, t, h1, h v H2 g' s12 h2 ((o1'.sub i1 n1).sub h3 h4)⟩)
    | _ => simp [idxB] at e
  | scr ds =>
    cases d2 with
    | int i =>
      cases ha : atI ds i with
      | none => simp [idxB, ha] at e
      | some d =>
        simp only [idxB, ha, Option.map_some, Option.some.injEq] at e
        subst e
        obtain ⟨a, vs, g, rfl, t, q, i1, n1⟩ := r1'.scrI
        obtain ⟨v, g', h1, h2, h3, h4⟩ := atI_rep q ha
        cases r2
        exact .inl (.inl ⟨_, _, _, _, rfl, rfl, t, h1, h v H2 g' s12 h2 ((o1'.sub i1 n1).sub h3 h4)⟩)
    | _ => simp [idxB] at e
  | tup ds =>
    cases d2 with
    | int i =>
      cases ha : atI ds i with
      | none => simp [idxB, ha] at e
      | some d =>
        simp only [idxB, ha, Option.map_some, Option.some.injEq] at e
        subst e
        obtain ⟨a, vs, rfl, t, q⟩ := r1'.tupI
        obtain ⟨v, g', h1, h2, h3, h4⟩ := atI_rep q ha
        cases r2
        exact .inl (.inr (.inl ⟨_, _, _, _, rfl, rfl, .of t, h1, h v H2 g' s12 h2 (o1'.sub h3 h4)⟩))
    | _ => simp [idxB] at e
  | str z =>
    cases d2 with
    | int i =>
      simp only [idxB] at e
      split at e
      · rename_i hz
        cases ha : atI z.cps.toList i with
        | none => rw [ha] at e; cases e
        | some c =>
          rw [ha] at e
          simp only [Option.map_some, Option.some.injEq] at e
          subst e
          cases r1'; cases r2
          exact .inl (.inr (.inr ⟨_, _, _, rfl, rfl, by rw [← lim_eq]; exact hz, ha, h.atom s12 (.str _)⟩))
      · cases e
    | _ => simp [idxB] at e
  | dic kvs =>
    cases hk : keyD d2 with
    | none => cases d2 <;> simp [idxB, hk] at e
    | some q =>
      have e : ((keyD d2).bind fun q => (valD kvs q).map fun d => (k, d)) = some kd := by cases d2 <;> exact e
      rw [hk] at e
      cases r1' with
      | dic hd _ qd =>
      have ev := keyD_rep r2 hk
      subst ev
      rcases qd.val q with ⟨e1, _⟩ | ⟨d, v, g, e1, e2, e3, e4, e5⟩
      · simp [e1] at e
      · simp only [Option.bind_some, e1, Option.map_some, Option.some.injEq] at e
        subst e
        refine .inr ⟨_, v, rfl, e2 ▸ DGet.k hd, h v H2 g s12 e3 (o1'.sub (fun b hb => List.mem_cons_of_mem _ (e4 b hb)) fun n => e5 (List.nodup_cons.mp n).2)⟩
  | fdc kvs =>
    cases hk : keyD d2 with
    | none => cases d2 <;> simp [idxB, hk] at e
    | some q =>
      have e : ((keyD d2).bind fun q => (valD kvs q).map fun d => ((.own, d) : KD)) = some kd := by cases d2 <;> exact e
      rw [hk] at e
      cases r1' with
      | fdc hd _ qd =>
      have ev := keyD_rep r2 hk
      subst ev
      rcases qd.val q with ⟨e1, _⟩ | ⟨d, v, g, e1, e2, e3, e4, e5⟩
      · simp [e1] at e
      · simp only [Option.bind_some, e1, Option.map_some, Option.some.injEq] at e
        subst e
        have hg : g = [] := List.eq_nil_iff_forall_not_mem.mpr fun b hb => nomatch e4 b hb
        subst hg
        refine .inr ⟨_, v, rfl, .inl ⟨_, q, .inr ⟨_, hd⟩, rfl, e2.symm⟩, h v H2 [] s12 e3 (KOk.nil _)⟩
  | dtk kvs =>
    cases hk : keyT d2 with
    | none => cases d2 <;> simp [idxB, hk] at e
    | some q =>
      have e : ((keyT d2).bind fun q => (valD kvs q).map fun d => (k, d)) = some kd := by cases d2 <;> exact e
      rw [hk] at e
      cases r1' with
      | dtk hd _ qd =>
      obtain ⟨b, ev, eb⟩ := keyT_rep r2 hk
      subst ev
      rcases qd.val q with ⟨e1, _⟩ | ⟨d, v, g, e1, e2, e3, e4, e5⟩
      · simp [e1] at e
      · simp only [Option.bind_some, e1, Option.map_some, Option.some.injEq] at e
        subst e
        refine .inr ⟨_, v, rfl, e2 ▸ DGet.t hd eb, h v H2 g s12 e3 (o1'.sub (fun b hb => List.mem_cons_of_mem _ (e4 b hb)) fun n => e5 (List.nodup_cons.mp n).2)⟩
  | _ => cases d2 <;> simp [idxB] at e
theorem slB_ok {k : Kd} {d1 : D} {v1 : V} {f1 : List Addr} {lo hi : Option Int} {kd : KD} (sr : SR K A H0 F G ρ σ H) (s1 : Same H H1) (s2 : Same H1 H2) (r1 : Rep K H1 d1 v1 f1) (o1 : KOk A H0 F H H1 k f1)
    (e : slB (k, d1) lo hi = some kd) (h : Cont K A H0 F H kd Q) : rSlx K v1 lo hi H2 Q := by
  have r1' := r1.same s2
  have s12 := s1.trans s2
  have o1' := o1.wide (Same.refl H) s2
  cases d1 with
  | lst ds =>
    simp only [slB, Option.some.injEq] at e
    subst e
    obtain ⟨a, vs, g, rfl, t, q, i1, n1⟩ := r1'.lstI
    obtain ⟨g', h1, h2, h3⟩ := cut_rep lo hi q
    exact .inl ⟨a, vs, rfl, t, fun p np => h.newL sr s12 h1 (((o1'.sub i1 n1).sub h2 h3).lk h1) np⟩
  | scr ds =>
    simp only [slB, Option.some.injEq] at e
    subst e
    obtain ⟨a, vs, g, rfl, t, q, i1, n1⟩ := r1'.scrI
    obtain ⟨g', h1, h2, h3⟩ := cut_rep lo hi q
    exact .inl ⟨a, vs, rfl, t, fun p np => h.newL sr s12 h1 (((o1'.sub i1 n1).sub h2 h3).lk h1) np⟩
  | tup ds =>
    simp only [slB, Option.some.injEq] at e
    subst e
    obtain ⟨a, vs, rfl, t, q⟩ := r1'.tupI
    obtain ⟨g', h1, h2, h3⟩ := cut_rep lo hi q
    refine .inr (.inl ⟨a, vs, rfl, .of t, fun hw => ?_, fun hw p np => h.newT s12 h1 (o1'.sub h2 h3) np⟩)
    have e : cutV vs lo hi = vs := by
      unfold cutV
      rw [hw.1, hw.2]
      simp
    rw [e] at h1
    exact h _ _ g' s12 (.tup t h1) (o1'.sub h2 h3)
  | str z =>
    simp only [slB] at e
    split at e
    · rename_i hz
      cases e
      cases r1'
      exact .inr (.inr ⟨z, rfl, by rw [← lim_eq]; exact hz, h.atom s12 (.str _)⟩)
    · cases e
  | _ => simp [slB] at e
end
section
variable {X : Cx} {CA : String → Addr} {W : WX} {pos p2 : Pos} {a b e : Expr} {es : List Expr} {sa sb : SE} {s : SA} {lo hi : Option Expr} {sl sh : SO}
theorem a_nil : PA X [] (tA X.K CA W nilA) := by
  refine ⟨fun pos pins s σ H Q I ⟨A, H0, F, G, ρ, sr, h⟩ => pa_nil.run pos pins s σ H Q I ?_⟩
  exact h [] H [] (Same.refl H) .nil (KOk.nil _)
theorem a_cons (ha : PE X e (tE X.K CA W sa)) (hr : PA X es (tA X.K CA W s)) (hs : starEach (e :: es) X.env = (false, eval e X.env) :: starEach es X.env := by rfl) : PA X (e :: es) (tA X.K CA W (consA sa s)) := by
  refine ⟨fun pos pins s' σ H Q I ⟨A, H0, F, G, ρ, sr, h⟩ => (pa_cons ha hr hs).run pos pins s' σ H Q I ?_⟩
  refine ⟨A, H0, F, G, ρ, sr, h.bind fun ⟨k1, d1⟩ h1 => ?_⟩
  intro v1 H1 f1 s1 r1 o1
  refine ⟨A, H0, F, G, ρ, sr.same s1, (h1.later s1).bind fun xs h2 => ?_⟩
  intro vs H2 f2 s2 r2 o2
  exact h2 (v1 :: vs) H2 (f1 ++ f2) (s1.trans s2) (.cons (r1.same s2) r2) (KOk.join sr s1 s2 r1.trk (KOk.nk r1 o1) o2)
theorem Post.ite {α : Type} {K : PySem.W.Frag} {CA : String → Addr} {W : WX} {σ : L2.St} {H : Hp} {c : Prop} [Decidable c] {r : R α} {ok : α → Prop} (h : Post K CA W σ H (if c then r else .st) ok) : c ∧ Post K CA W σ H r ok := by
  split at h
  · exact ⟨by assumption, h⟩
  · exact h.elim
theorem e_tup {x1} (h : PA X es (tA X.K CA W s)) : PE X (.Tuple es x1 pos) (tE X.K CA W (tupE s)) := by
  refine peI (pe_tup h) fun σ H Q ⟨A, H0, F, G, ρ, sr, h⟩ => ?_
  refine ⟨A, H0, F, G, ρ, sr, h.bind fun xs h1 => ?_⟩
  intro vs H1 f s1 r o
  obtain ⟨hz, h2⟩ := h1.ite
  exact ⟨by rw [← r.length, List.length_map, ← lim_eq]; exact hz, fun p np => Cont.newT h2 s1 r o np⟩
theorem e_lst (h : PA X es (tA X.K CA W s)) : PE X (.List es pos) (tE X.K CA W (lstE s)) := by
  refine peI (pe_lst h) fun σ H Q ⟨A, H0, F, G, ρ, sr, h⟩ => ?_
  refine ⟨A, H0, F, G, ρ, sr, h.bind fun xs h1 => ?_⟩
  intro vs H1 f s1 r o
  obtain ⟨hz, h2⟩ := h1.ite
  exact ⟨by rw [← r.length, List.length_map, ← lim_eq]; exact hz, fun p np => Cont.newL h2 sr s1 r (o.lk r) np⟩
theorem e_idx (hu : X.A.units + 65 < cLine) (ha : PE X a (tE X.K CA W sa)) (hb : PE X b (tE X.K CA W sb)) (hs : PlainIx b := by exact fun _ _ => rfl) : PE X (.Subscript a b pos) (tE X.K CA W (idxE sa sb)) := by
  refine peI (pe_ix (ix_any (by omega)) ha hb hs) fun σ H Q ⟨A, H0, F, G, ρ, sr, h⟩ => ?_
  refine ⟨A, H0, F, G, ρ, sr, h.bind fun ⟨k1, d1⟩ h1 => ?_⟩
  intro v1 H1 f1 s1 r1 o1
  refine ⟨A, H0, F, G, ρ, sr.same s1, (h1.later s1).bind fun ⟨k2, d2⟩ h2 => ?_⟩
  intro v2 H2 f2 s2 r2 o2
  obtain ⟨kd, e, h3⟩ := h2.of
  exact idxB_ok s1 s2 r1 r2 o1 e h3
theorem o_none : PO X none (tO X.K CA W noO) := by
  refine ⟨fun pins s σ H Q I ⟨A, H0, F, G, ρ, sr, h⟩ => po_none.run pins s σ H Q I ?_⟩
  exact h H (Same.refl H)
theorem o_some (ha : PE X a (tE X.K CA W sa)) : PO X (some a) (tO X.K CA W (someO sa)) := by
  refine ⟨fun pins s σ H Q I ⟨A, H0, F, G, ρ, sr, h⟩ => (po_some ha).run pins s σ H Q I ?_⟩
  refine ⟨A, H0, F, G, ρ, sr, h.bind fun ⟨k1, d1⟩ h1 => ?_⟩
  intro v1 H1 f1 s1 r1 o1
  cases d1 with
  | int i => cases r1; exact ⟨i, rfl, h1 H1 s1⟩
  | _ => exact h1.elim
theorem e_sl (ha : PE X a (tE X.K CA W sa)) (hl : PO X lo (tO X.K CA W sl)) (hh : PO X hi (tO X.K CA W sh)) : PE X (.Subscript a (.Slice lo hi none p2) pos) (tE X.K CA W (slE sa sl sh)) := by
  refine peI (pe_slice sl_any ha hl hh) fun σ H Q ⟨A, H0, F, G, ρ, sr, h⟩ => ?_
  refine ⟨A, H0, F, G, ρ, sr, h.bind fun ⟨k1, d1⟩ h1 => ?_⟩
  intro v1 H1 f1 s1 r1 o1
  refine ⟨A, H0, F, G, ρ, sr.same s1, (h1.later s1).bind fun l h2 => ?_⟩
  intro H2 s2
  refine ⟨A, H0, F, G, ρ, (sr.same s1).same s2, (h2.later s2).bind fun u h3 => ?_⟩
  intro H3 s3
  obtain ⟨kd, e, h4⟩ := h3.of
  exact slB_ok sr s1 (s2.trans s3) r1 o1 e h4
theorem e_dnw : PE X (.Dict [] [] pos) (tE X.K CA W dnwE) := by
  refine peI pe_dnewK fun σ H Q ⟨A, H0, F, G, ρ, sr, h⟩ => ?_
  intro d hd
  refine h _ _ [d] (same_upd hd) (.dic upd_same List.nodup_nil .nil) ⟨List.nodup_cons.mpr ⟨by simp, List.nodup_nil⟩, fun a ha => ?_⟩
  rw [List.mem_singleton.mp ha]
  exact ⟨hd, ⟨by rw [upd_same]; trivial⟩⟩
end
/-! ### calls of defs -/
/-- what a def promises: the evaluator's answer -/
abbrev Fn := List D → R KD
def spF (K : PySem.W.Frag) (CA : String → Addr) (fn : Fn) (n : Nat) : Sp := fun vs H Q E => ∃ A ds f, ds.length = n ∧ Reps K H ds vs f ∧ (∀ a ∈ f, A a) ∧
  match fn ds with
  | .ok (k, d) => ∀ v H' g, Same H H' → Rep K H' d v g → RetK A H H' k g → Q v H'
  | .ex c => ∀ H', Same H H' → WxOk K CA c E H'
  | .st => False
def retK : Kd → Kd → Kd
  | .own, _ => .own
  | .bor _, k => .bor k.is
def callE (fn : Fn) (s : SA) (dd : List D) : SE := fun ρ => (s ρ).bind fun xs => (fn (xs.map (·.2) ++ dd)).bind fun kd => .ok (retK kd.1 (jn xs), kd.2)
/-- what is known of the def named x, called with n arguments, the defaults dd behind them -/
structure FnG (P : Program) (w : World) (K : PySem.W.Frag) (mg : Str → Option Value) (base : Heap) (CA : String → Addr) (fn : Fn) (k : Nat) (x : String) (dd : List D) : Prop where
  is : ∃ (f : Addr) (fd : FuncData) (ps : List Str) (dvs : List V) (ds : List Value), mg (Str.ofString x) = some (.ref f) ∧ FnOk P w K mg base (L2.CX P w) k f fd ps (spF K CA fn ps.length) ∧
    PySem.W.keepIn K (.ref f) = true ∧ Binds K fd ps ds ∧ Vals dvs ds ∧ (∀ H, Reps K H dd dvs []) ∧ ∀ as, fn as ≠ .st → as.length = ps.length
abbrev FnIs (X : Cx) (CA : String → Addr) (fn : Fn) (k : Nat) (x : String) (dd : List D) : Prop := FnG X.prog X.w X.K X.mg X.base CA fn k x dd
section
variable {X : Cx} {CXx : CXT} {k : Nat} {f : Addr} {fd : FuncData} {ps : List Str} {sp : Sp} {E : L2.St → XK} {x : Str} {p pos : Pos} {e : Expr} {es : List Expr} {t : TA} {dvs : List V} {ds : List Value}
theorem run_fnSD {pins : List (Addr × Obj)} {σ : L2.St} {H : Hp} {s : Shared} {Q : VK} {us : List Value} {vs : List V} (Fn : FnOk X.prog X.w X.K X.mg X.base CXx k f fd ps sp) (hr : Room k X.A) (hb : Binds X.K fd ps ds) (hd : Vals dvs ds) (hx : PassesAt CXx X σ (E σ))
    (I : Inv X pins σ H s) (r : Vals vs us) (h : sp (vs ++ dvs) H Q (E σ)) : wpAny (model X.prog X.w) X.A (call (.ref f) us) (EP X pins σ Q) X.xe s := by
  have r2 : Vals (vs ++ dvs) (us ++ ds) := r.append hd
  have hl : (us ++ ds).length = ps.length := by rw [← r2.length]; exact Fn.len _ _ _ _ h
  refine wpAny_call (codeAny_mono (Fn.run X.A X.stack s H ⟨us, []⟩ (us ++ ds) (vs ++ dvs) Q (E σ) hr I.env0 (hb s us I.kIn hl) r2 h) fun r s' hq => ?_)
  cases r with
  | error e => exact hx pins H s e s' I hq
  | ok fl =>
    cases fl with
    | ret u => exact I.after hq
    | next => exact False.elim hq
    | brk => exact False.elim hq
    | cont => exact False.elim hq
def tCallSD (sp : Sp) (dvs : List V) (E : L2.St → XK) (t : TA) : TE := fun σ H Q => t σ H fun vs H1 => sp (vs ++ dvs) H1 Q (E σ)
theorem pe_callSD (Fn : FnOk X.prog X.w X.K X.mg X.base CXx k f fd ps sp) (hr : Room k X.A) (hg : Gl X x) (hm : X.mg x = some (.ref f)) (hk : PySem.W.keepIn X.K (.ref f) = true) (hb : Binds X.K fd ps ds) (hd : Vals dvs ds) (hx : ∀ σ, PassesAt CXx X σ (E σ))
    (ha : PA X (e :: es) t) (hdb : (x == ("__debug__" : Str)) = false) (he : starEach (e :: es) X.env = (false, eval e X.env) :: starEach es X.env) (hpl : (backTo pos (starEach es X.env)).any (·.1) = false) :
    PE X (.Call (.Name x p) (e :: es) [] pos) (tCallSD sp dvs E t) := by
  refine ⟨fun pins s σ H Q I h => ?_⟩
  refine wpAny_Call_Name_kw (ld_glob I hg hm ?_ hdb)
  refine PySem.W.callWith_K (h₀ := X.base) I.ok.mod.kin hk (thn (ha.run pos pins s σ H _ I h) fun us s1 ⟨vs, H1, I1, r, q⟩ => ⟨I1.kIn, ?_⟩) he hpl
  exact run_fnSD Fn hr hb hd (hx σ) I1 r q
theorem pe_callSD0 (Fn : FnOk X.prog X.w X.K X.mg X.base CXx k f fd ps sp) (hr : Room k X.A) (hg : Gl X x) (hm : X.mg x = some (.ref f)) (hk : PySem.W.keepIn X.K (.ref f) = true) (hb : Binds X.K fd ps ds) (hd : Vals dvs ds) (hx : ∀ σ, PassesAt CXx X σ (E σ))
    (hdb : (x == ("__debug__" : Str)) = false) : PE X (.Call (.Name x p) [] [] pos) (tCallSD sp dvs E tNil) := by
  refine ⟨fun pins s σ H Q I h => ?_⟩
  refine wpAny_Call_Name_kw (ld_glob I hg hm ?_ hdb)
  exact PySem.W.callWith_K0 I.kIn hk (run_fnSD (us := []) Fn hr hb hd (hx σ) I .nil h)
end
section
variable {X : Cx} {CA : String → Addr} {W : WX} {fn : Fn} {k : Nat} {x : String} {p pos : Pos} {e : Expr} {es : List Expr} {s : SA} {dd : List D}
theorem call_ok {K : PySem.W.Frag} {A : Addr → Prop} {H0 H H1 : Hp} {F : Nat → List Addr} {G : List (D × V)} {ρ : Env} {σ : L2.St} {Q : VK} {xs : List KD} {vs dvs : List V} {f : List Addr} {n : Nat} (sr : SR K A H0 F G ρ σ H) (s1 : Same H H1)
    (r : Reps K H1 (xs.map (·.2)) vs f) (o : KOk A H0 F H H1 (jn xs) f) (hd : Reps K H1 dd dvs []) (hn : (vs ++ dvs).length = n)
    (h : Post K CA W σ H1 ((fn (xs.map (·.2) ++ dd)).bind fun kd => .ok (retK kd.1 (jn xs), kd.2)) fun kd => Cont K A H0 F H kd Q) : spF K CA fn n (vs ++ dvs) H1 Q (WE W σ) := by
  have r2 := r.app hd
  rw [List.append_nil] at r2
  refine ⟨fun a => (∃ j ∈ (jn xs).is, a ∈ F j) ∨ Sh A H0 F a, _, f, by rw [r2.length]; exact hn, r2, o.bok sr, ?_⟩
  cases hc : fn (xs.map (·.2) ++ dd) with
  | st => rw [hc] at h; exact h.elim
  | ex c => rw [hc] at h; exact h
  | ok kd =>
    rw [hc] at h
    obtain ⟨k, d⟩ := kd
    intro v H' g s2 r3 o3
    refine h v H' g (s1.trans s2) r3 ?_
    have s12 := s1.trans s2
    cases k with
    | own => exact ⟨o3.1, fun a ha => ⟨s1.free (o3.2 a ha).1, (o3.2 a ha).2⟩⟩
    | bor is =>
      intro a ha
      rcases o3 a ha with q | q
      · exact q
      · exact .inr ⟨.inr ((sr.fr.trans s1).free q), fun j hj => ((sr.same s1).own j).2 a hj |>.2.ne q⟩
theorem e_call (tk : Takes X W) (hr : Room k X.A) (hf : FnIs X CA fn k x dd) (ha : PA X (e :: es) (tA X.K CA W s)) (hg : Gl X (Str.ofString x) := by rfl) (hdb : (Str.ofString x == ("__debug__" : Str)) = false := by decide)
    (he : starEach (e :: es) X.env = (false, eval e X.env) :: starEach es X.env := by rfl) (hpl : (backTo pos (starEach es X.env)).any (·.1) = false := by rfl) : PE X (.Call (.Name (Str.ofString x) p) (e :: es) [] pos) (tE X.K CA W (callE fn s dd)) := by
  obtain ⟨f, fd, ps, dvs, ds, hm, Fn, hk, hb, hd, hdd, hz⟩ := hf.is
  refine peI (pe_callSD Fn hr hg hm hk hb hd (fun σ => passAt tk σ) ha hdb he hpl) fun σ H Q ⟨A, H0, F, G, ρ, sr, h⟩ => ?_
  refine ⟨A, H0, F, G, ρ, sr, h.bind fun xs h1 => ?_⟩
  intro vs H1 f1 s1 r o
  refine call_ok sr s1 r o (hdd H1) ?_ (h1.later s1)
  have r2 := r.app (hdd H1)
  rw [← r2.length]
  refine hz _ fun z => ?_
  rw [z] at h1
  exact h1
theorem e_call0 (tk : Takes X W) (hr : Room k X.A) (hf : FnIs X CA fn k x dd) (hg : Gl X (Str.ofString x) := by rfl) (hdb : (Str.ofString x == ("__debug__" : Str)) = false := by decide) : PE X (.Call (.Name (Str.ofString x) p) [] [] pos) (tE X.K CA W (callE fn nilA dd)) := by
  obtain ⟨f, fd, ps, dvs, ds, hm, Fn, hk, hb, hd, hdd, hz⟩ := hf.is
  refine peI (pe_callSD0 Fn hr hg hm hk hb hd (fun σ => passAt tk σ) hdb) fun σ H Q ⟨A, H0, F, G, ρ, sr, h⟩ => ?_
  have h1 : Post X.K CA W σ H ((fn ([] ++ dd)).bind fun kd => .ok (retK kd.1 (jn []), kd.2)) fun kd => Cont X.K A H0 F H kd Q := h
  refine call_ok (xs := []) (vs := []) sr (Same.refl H) .nil (KOk.nil _) (hdd H) ?_ h1
  have r2 := (Reps.nil (K := X.K) (H := H)).app (hdd H)
  rw [← r2.length]
  refine hz _ fun z => ?_
  rw [z] at h1
  exact h1
end
/-! ### builtins -/
/-- the reading r of a builtin is what f tells -/
def BltOk (K : PySem.W.Frag) (f : List KD → Option KD) (r : List V → Hp → VK → Prop) : Prop :=
  ∀ {A : Addr → Prop} {H0 H H1 : Hp} {F : Nat → List Addr} {G : List (D × V)} {ρ : Env} {σ : L2.St} {Q : VK} {xs : List KD} {vs : List V} {g : List Addr} {kd : KD}, SR K A H0 F G ρ σ H → Same H H1 → Reps K H1 (xs.map (·.2)) vs g → KOk A H0 F H H1 (jn xs) g →
    f xs = some kd → Cont K A H0 F H kd Q → r vs H1 Q
def bltE (f : List KD → Option KD) (s : SA) : SE := fun ρ => (s ρ).bind fun xs => R.of (f xs)
section
variable {X : Cx} {CA : String → Addr} {W : WX} {x : Str} {p pos : Pos} {e : Expr} {es : List Expr} {s : SA} {id T : String} {f : List KD → Option KD} {r : List V → Hp → VK → Prop}
theorem blt_ok {K : PySem.W.Frag} {t : TA} (hok : BltOk K f r) (σ : L2.St) (H : Hp) (Q : VK) (h : tE K CA W (bltE f s) σ H Q) : tA K CA W s σ H fun vs H1 => r vs H1 Q := by
  obtain ⟨A, H0, F, G, ρ, sr, h⟩ := h
  refine ⟨A, H0, F, G, ρ, sr, h.bind fun xs h1 => ?_⟩
  intro vs H1 g s1 rr o
  obtain ⟨kd, e, h2⟩ := h1.of
  exact hok sr s1 rr o e h2
theorem e_blt (hc : CallR X (.builtin id) r) (hok : BltOk X.K f r) (hm : X.mg x = none) (hv : bootBuiltins x = some (.builtin id)) (ha : PA X (e :: es) (tA X.K CA W s)) (hg : Gl X x := by rfl) (hn : x ≠ "__name__" := by decide) (hdb : (x == ("__debug__" : Str)) = false := by decide)
    (he : starEach (e :: es) X.env = (false, eval e X.env) :: starEach es X.env := by rfl) (hpl : (backTo pos (starEach es X.env)).any (·.1) = false := by rfl) : PE X (.Call (.Name x p) (e :: es) [] pos) (tE X.K CA W (bltE f s)) :=
  peI (pe_callB hc hg hm hv ha hn hdb he hpl) fun σ H Q h => blt_ok (t := tNil) hok σ H Q h
theorem e_bty (hc : CallR X (.type T) r) (hok : BltOk X.K f r) (hm : X.mg x = none) (hv : bootBuiltins x = some (.type T)) (ha : PA X (e :: es) (tA X.K CA W s)) (hg : Gl X x := by rfl) (hn : x ≠ "__name__" := by decide) (hdb : (x == ("__debug__" : Str)) = false := by decide)
    (he : starEach (e :: es) X.env = (false, eval e X.env) :: starEach es X.env := by rfl) (hpl : (backTo pos (starEach es X.env)).any (·.1) = false := by rfl) : PE X (.Call (.Name x p) (e :: es) [] pos) (tE X.K CA W (bltE f s)) :=
  peI (pe_callTy hc hg hm hv ha hn hdb he hpl) fun σ H Q h => blt_ok (t := tNil) hok σ H Q h
end
/-- all ints -/
def blsD : List D → Option (List Bool)
  | [] => some []
  | .bl i :: r => (blsD r).map (i :: ·)
  | _ :: _ => none
@[simp] theorem blsD_map : ∀ ns : List Bool, blsD (ns.map D.bl) = some ns
  | [] => rfl
  | n :: ns => by simp [blsD, blsD_map ns]
theorem blsD_eq : ∀ {ds : List D} {ns : List Bool}, blsD ds = some ns → ds = ns.map D.bl
  | [], ns, e => by simp only [blsD, Option.some.injEq] at e; subst e; rfl
  | d :: ds, ns, e => by
    cases d with
    | bl i =>
      cases h : blsD ds with
      | none => simp [blsD, h] at e
      | some ms => simp only [blsD, h, Option.map_some, Option.some.injEq] at e; subst e; rw [blsD_eq h]; rfl
    | _ => simp [blsD] at e
theorem Reps.bls_inv {K : PySem.W.Frag} {H : Hp} : ∀ {ns : List Bool} {vs : List V} {f : List Addr}, Reps K H (ns.map D.bl) vs f → vs = ns.map V.bl ∧ f = []
  | [], _, _, h => by cases h; exact ⟨rfl, rfl⟩
  | n :: ns, _, _, h => by
    cases h with
    | cons r t =>
      cases r
      obtain ⟨e1, e2⟩ := Reps.bls_inv t
      subst e1; subst e2
      exact ⟨rfl, rfl⟩
def lenD : D → Option Nat
  | .lst ds => some ds.length
  | .scr ds => some ds.length
  | .tup ds => some ds.length
  | .str z => if z.length ≤ LIM then some z.length else none
  | .dic kvs => some kvs.length
  | _ => none
def bLen : List KD → Option KD
  | [x] => (lenD x.2).map fun (n : Nat) => (Kd.own, D.int (n : Int))
  | _ => none
def maxL : List Int → Option Int
  | [] => none
  | n :: ns => some (ns.foldl max n)
def minL : List Int → Option Int
  | [] => none
  | n :: ns => some (ns.foldl min n)
def itemsD : D → Option (List D)
  | .lst ds => some ds
  | .tup ds => some ds
  | _ => none
def bMax : List KD → Option KD
  | [(_, .int i), (_, .int j)] => some (.own, .int (max i j))
  | [(_, .lst ds)] => ((intsD ds).bind maxL).map fun n => (.own, .int n)
  | [(_, .tup ds)] => ((intsD ds).bind maxL).map fun n => (.own, .int n)
  | _ => none
def bMin : List KD → Option KD
  | [(_, .int i), (_, .int j)] => some (.own, .int (min i j))
  | [(_, .lst ds)] => ((intsD ds).bind minL).map fun n => (.own, .int n)
  | [(_, .tup ds)] => ((intsD ds).bind minL).map fun n => (.own, .int n)
  | _ => none
def bSum : List KD → Option KD
  | [(_, .lst ds)] => (intsD ds).map fun ns => (.own, .int ns.sum)
  | [(_, .scr ds)] => (intsD ds).map fun ns => (.own, .int ns.sum)
  | _ => none
def bAll : List KD → Option KD
  | [(_, .lst ds)] => (blsD ds).map fun ns => (.own, .bl (ns.all id))
  | _ => none
def bAny : List KD → Option KD
  | [(_, .lst ds)] => (blsD ds).map fun ns => (.own, .bl (ns.any id))
  | _ => none
def bTup : List KD → Option KD
  | [(k, .lst ds)] => some (k, .tup ds)
  | [(k, .tup ds)] => some (k, .tup ds)
  | _ => none
def bLst : List KD → Option KD
  | [(k, .lst ds)] => some (lk k ds, .lst ds)
  | [(k, .scr ds)] => some (lk k ds, .lst ds)
  | [(k, .tup ds)] => some (lk k ds, .lst ds)
  | _ => none
def bInt : List KD → Option KD
  | [(_, .int i)] => some (.own, .int i)
  | [(_, .bl b)] => some (.own, .int (if b then 1 else 0))
  | _ => none
def bAbs : List KD → Option KD
  | [(_, .int i)] => some (.own, .int (if i < 0 then -i else i))
  | _ => none
end Cz
set_option maxHeartbeats 4000000
/-! Cz4b: the builtins' answers. -/
namespace Cz
open PySem PySem.Spec PyProof.Rows L2
section
variable {K : PySem.W.Frag} {H : Hp}
theorem Reps.one {ds : List D} {d : D} {vs : List V} {g : List Addr} (e : ds = [d]) (r : Reps K H ds vs g) : ∃ v, vs = [v] ∧ Rep K H d v g := by
  subst e
  cases r with
  | cons r t => cases t; rw [List.append_nil]; exact ⟨_, rfl, r⟩
theorem Reps.two {d d' : D} {vs : List V} {g : List Addr} (r : Reps K H [d, d'] vs g) : ∃ v v' f f', vs = [v, v'] ∧ g = f ++ f' ∧ Rep K H d v f ∧ Rep K H d' v' f' := by
  cases r with
  | cons r t => cases t with
    | cons r' t' => cases t'; exact ⟨_, _, _, _, rfl, by rw [List.append_nil], r, r'⟩
theorem foldl_max : ∀ (ns : List Int) (n : Int), ns.foldl max n ∈ n :: ns ∧ ∀ y ∈ n :: ns, y ≤ ns.foldl max n
  | [], n => ⟨by simp, fun y hy => by simp at hy; subst hy; exact Int.le_refl _⟩
  | m :: ns, n => by
    obtain ⟨h1, h2⟩ := foldl_max ns (max n m)
    refine ⟨?_, fun y hy => ?_⟩
    · show ns.foldl max (max n m) ∈ _
      rcases List.mem_cons.mp h1 with e | h1
      · rw [e]
        by_cases h : n ≤ m
        · rw [Int.max_eq_right h]; simp
        · rw [Int.max_eq_left (by omega)]; simp
      · exact List.mem_cons_of_mem _ (List.mem_cons_of_mem _ h1)
    · show y ≤ ns.foldl max (max n m)
      have h3 := h2 (max n m) List.mem_cons_self
      rcases List.mem_cons.mp hy with e | hy
      · subst e; omega
      · rcases List.mem_cons.mp hy with e | hy
        · subst e; omega
        · exact h2 y (List.mem_cons_of_mem _ hy)
theorem foldl_min : ∀ (ns : List Int) (n : Int), ns.foldl min n ∈ n :: ns ∧ ∀ y ∈ n :: ns, ns.foldl min n ≤ y
  | [], n => ⟨by simp, fun y hy => by simp at hy; subst hy; exact Int.le_refl _⟩
  | m :: ns, n => by
    obtain ⟨h1, h2⟩ := foldl_min ns (min n m)
    refine ⟨?_, fun y hy => ?_⟩
    · show ns.foldl min (min n m) ∈ _
      rcases List.mem_cons.mp h1 with e | h1
      · rw [e]
        by_cases h : n ≤ m
        · rw [Int.min_eq_left h]; simp
        · rw [Int.min_eq_right (by omega)]; simp
      · exact List.mem_cons_of_mem _ (List.mem_cons_of_mem _ h1)
    · show ns.foldl min (min n m) ≤ y
      have h3 := h2 (min n m) List.mem_cons_self
      rcases List.mem_cons.mp hy with e | hy
      · subst e; omega
      · rcases List.mem_cons.mp hy with e | hy
        · subst e; omega
        · exact h2 y (List.mem_cons_of_mem _ hy)
theorem maxL_eq {ns : List Int} {M m : Int} (e : maxL ns = some M) (h1 : m ∈ ns) (h2 : ∀ y, y ∈ ns → y ≤ m) : m = M := by
  cases ns with
  | nil => cases e
  | cons n ns =>
    simp only [maxL, Option.some.injEq] at e
    subst e
    obtain ⟨h3, h4⟩ := foldl_max ns n
    have := h2 _ h3
    have := h4 _ h1
    omega
theorem minL_eq {ns : List Int} {M m : Int} (e : minL ns = some M) (h1 : m ∈ ns) (h2 : ∀ y, y ∈ ns → m ≤ y) : m = M := by
  cases ns with
  | nil => cases e
  | cons n ns =>
    simp only [minL, Option.some.injEq] at e
    subst e
    obtain ⟨h3, h4⟩ := foldl_min ns n
    have := h2 _ h3
    have := h4 _ h1
    omega
end
/-! a call's arguments, taken apart -/
theorem one_of {α : Type} {p : List α → Prop} (h1 : ∀ x, p [x]) (xs : List α) (h : ¬ ∃ x, xs = [x] → False) : True := trivial
def rLenA (K : PySem.W.Frag) : List V → Hp → VK → Prop := fun xs H Q => (∃ p ys, xs = [.ref p] ∧ (SqL K H p ys ∨ SqT K H p ys) ∧ Q (.int ys.length) H) ∨ (∃ z, xs = [.str z] ∧ z.length ≤ sizeLine ∧ Q (.int z.length) H) ∨ ∃ a kvs, xs = [.ref a] ∧ H a = some (.dK kvs) ∧ Q (.int kvs.length) H
theorem cLen {X : Cx} : CallR X (.builtin "len") (rLenA X.K) := call_len_seq.or (call_len_str.or call_lenD)
theorem RepK.length {K : PySem.W.Frag} {H : Hp} {κ : Type} : ∀ {d : List (κ × D)} {v : List (κ × V)} {f : List Addr}, RepK K H d v f → d.length = v.length
  | _, _, _, .nil => rfl
  | _, _, _, .cons _ t => by simp [RepK.length t]
theorem oLen {K : PySem.W.Frag} : BltOk K bLen (rLenA K) := by
  intro A H0 H H1 F G ρ σ Q xs vs g kd sr s1 r o e h
  match xs, e with
  | [(k, d)], e =>
    obtain ⟨v, rfl, r0⟩ := r.one (d := d) rfl
    have e : (lenD d).map (fun n : Nat => ((Kd.own, D.int (n : Int)) : KD)) = some kd := e
    cases r0 with
    | tup t q => simp only [lenD, Option.map_some, Option.some.injEq] at e; subst e; exact .inl ⟨_, _, rfl, .inr (.of t), by rw [← q.length]; exact h.atom s1 (.int _)⟩
    | lst t q => simp only [lenD, Option.map_some, Option.some.injEq] at e; subst e; exact .inl ⟨_, _, rfl, .inl (.of t), by rw [← q.length]; exact h.atom s1 (.int _)⟩
    | scw t q => simp only [lenD, Option.map_some, Option.some.injEq] at e; subst e; exact .inl ⟨_, _, rfl, .inl (.of t), by rw [← q.length]; exact h.atom s1 (.int _)⟩
    | scr t q =>
      simp only [lenD, Option.map_some, Option.some.injEq] at e; subst e
      rcases t with t | ⟨o, t⟩
      · exact .inl ⟨_, _, rfl, .inl (t _), by rw [← q.length]; exact h.atom s1 (.int _)⟩
      · exact .inl ⟨_, _, rfl, .inl (.inl (.inr ⟨o, t⟩)), by rw [← q.length]; exact h.atom s1 (.int _)⟩
    | dic t _ q => simp only [lenD, Option.map_some, Option.some.injEq] at e; subst e; exact .inr (.inr ⟨_, _, rfl, t, by rw [← q.length]; exact h.atom s1 (.int _)⟩)
    | str x =>
      simp only [lenD] at e
      split at e
      · rename_i hz; simp only [Option.map_some, Option.some.injEq] at e; subst e; exact .inr (.inl ⟨x, rfl, by rw [← lim_eq]; exact hz, h.atom s1 (.int _)⟩)
      · cases e
    | _ => simp [lenD] at e
  | [], e => cases e
  | _ :: _ :: _, e => cases e
def rMaxA (K : PySem.W.Frag) : List V → Hp → VK → Prop := fun xs H Q => (∃ i j, xs = [.int i, .int j] ∧ Q (.int (if j > i then j else i)) H) ∨ rMax K xs H Q ∨ rMaxT K xs H Q
def rMinA (K : PySem.W.Frag) : List V → Hp → VK → Prop := fun xs H Q => (∃ i j, xs = [.int i, .int j] ∧ Q (.int (if j < i then j else i)) H) ∨ rMin K xs H Q ∨ rMinT K xs H Q
theorem cMax {X : Cx} (hc : X.calm = true) : CallR X (.builtin "max") (rMaxA X.K) := (call_max2 hc).or ((cr_max hc).or (cr_maxT hc))
theorem cMin {X : Cx} (hc : X.calm = true) : CallR X (.builtin "min") (rMinA X.K) := (call_min2 hc).or ((cr_min hc).or (cr_minT hc))
theorem max2_eq (i j : Int) : (if j > i then j else i) = max i j := by
  by_cases h : j > i
  · rw [if_pos h, Int.max_eq_right (by omega)]
  · rw [if_neg h, Int.max_eq_left (by omega)]
theorem min2_eq (i j : Int) : (if j < i then j else i) = min i j := by
  by_cases h : j < i
  · rw [if_pos h, Int.min_eq_right (by omega)]
  · rw [if_neg h, Int.min_eq_left (by omega)]
theorem oMax {K : PySem.W.Frag} : BltOk K bMax (rMaxA K) := by
  intro A H0 H H1 F G ρ σ Q xs vs g kd sr s1 r o e h
  unfold bMax at e
  split at e
  · cases e
    obtain ⟨v, v', f, f', rfl, _, r1, r2⟩ := r.two
    cases r1; cases r2
    exact .inl ⟨_, _, rfl, by rw [max2_eq]; exact h.atom s1 (.int _)⟩
  · rename_i k ds
    obtain ⟨v, rfl, r0⟩ := r.one (d := .lst ds) rfl
    obtain ⟨a, ws, g', rfl, t, q, _, _⟩ := r0.lstI
    cases h1 : intsD ds with
    | none => rw [h1] at e; cases e
    | some ns =>
      rw [h1] at e
      cases h2 : maxL ns with
      | none => simp [h2] at e
      | some M =>
        simp only [Option.bind_some, h2, Option.map_some, Option.some.injEq] at e
        subst e
        have ed := intsD_eq h1
        subst ed
        obtain ⟨e1, _⟩ := q.ints_inv
        subst e1
        exact .inr (.inl ⟨a, ns, rfl, t, by cases ns with | nil => cases h2 | cons _ _ => simp, fun m m1 m2 => by rw [maxL_eq h2 m1 m2]; exact h.atom s1 (.int _)⟩)
  · rename_i k ds
    obtain ⟨v, rfl, r0⟩ := r.one (d := .tup ds) rfl
    obtain ⟨a, ws, rfl, t, q⟩ := r0.tupI
    cases h1 : intsD ds with
    | none => rw [h1] at e; cases e
    | some ns =>
      rw [h1] at e
      cases h2 : maxL ns with
      | none => simp [h2] at e
      | some M =>
        simp only [Option.bind_some, h2, Option.map_some, Option.some.injEq] at e
        subst e
        have ed := intsD_eq h1
        subst ed
        obtain ⟨e1, _⟩ := q.ints_inv
        subst e1
        exact .inr (.inr ⟨a, ns, rfl, .of t, by cases ns with | nil => cases h2 | cons _ _ => simp, fun m m1 m2 => by rw [maxL_eq h2 m1 m2]; exact h.atom s1 (.int _)⟩)
  · cases e
theorem oMin {K : PySem.W.Frag} : BltOk K bMin (rMinA K) := by
  intro A H0 H H1 F G ρ σ Q xs vs g kd sr s1 r o e h
  unfold bMin at e
  split at e
  · cases e
    obtain ⟨v, v', f, f', rfl, _, r1, r2⟩ := r.two
    cases r1; cases r2
    exact .inl ⟨_, _, rfl, by rw [min2_eq]; exact h.atom s1 (.int _)⟩
  · rename_i k ds
    obtain ⟨v, rfl, r0⟩ := r.one (d := .lst ds) rfl
    obtain ⟨a, ws, g', rfl, t, q, _, _⟩ := r0.lstI
    cases h1 : intsD ds with
    | none => rw [h1] at e; cases e
    | some ns =>
      rw [h1] at e
      cases h2 : minL ns with
      | none => simp [h2] at e
      | some M =>
        simp only [Option.bind_some, h2, Option.map_some, Option.some.injEq] at e
        subst e
        have ed := intsD_eq h1
        subst ed
        obtain ⟨e1, _⟩ := q.ints_inv
        subst e1
        exact .inr (.inl ⟨a, ns, rfl, t, by cases ns with | nil => cases h2 | cons _ _ => simp, fun m m1 m2 => by rw [minL_eq h2 m1 m2]; exact h.atom s1 (.int _)⟩)
  · rename_i k ds
    obtain ⟨v, rfl, r0⟩ := r.one (d := .tup ds) rfl
    obtain ⟨a, ws, rfl, t, q⟩ := r0.tupI
    cases h1 : intsD ds with
    | none => rw [h1] at e; cases e
    | some ns =>
      rw [h1] at e
      cases h2 : minL ns with
      | none => simp [h2] at e
      | some M =>
        simp only [Option.bind_some, h2, Option.map_some, Option.some.injEq] at e
        subst e
        have ed := intsD_eq h1
        subst ed
        obtain ⟨e1, _⟩ := q.ints_inv
        subst e1
        exact .inr (.inr ⟨a, ns, rfl, .of t, by cases ns with | nil => cases h2 | cons _ _ => simp, fun m m1 m2 => by rw [minL_eq h2 m1 m2]; exact h.atom s1 (.int _)⟩)
  · cases e
theorem oSum {K : PySem.W.Frag} : BltOk K bSum (rSum K) := by
  intro A H0 H H1 F G ρ σ Q xs vs g kd sr s1 r o e h
  unfold bSum at e
  split at e
  · rename_i k ds
    obtain ⟨v, rfl, r0⟩ := r.one (d := .lst ds) rfl
    obtain ⟨a, ws, g', rfl, t, q, _, _⟩ := r0.lstI
    cases h1 : intsD ds with
    | none => rw [h1] at e; cases e
    | some ns =>
      rw [h1] at e
      simp only [Option.map_some, Option.some.injEq] at e
      subst e
      have ed := intsD_eq h1
      subst ed
      obtain ⟨e1, _⟩ := q.ints_inv
      subst e1
      exact ⟨a, ns, rfl, t, h.atom s1 (.int _)⟩
  · rename_i k ds
    obtain ⟨v, rfl, r0⟩ := r.one (d := .scr ds) rfl
    obtain ⟨a, ws, g', rfl, t, q, _, _⟩ := r0.scrI
    cases h1 : intsD ds with
    | none => rw [h1] at e; cases e
    | some ns =>
      rw [h1] at e
      simp only [Option.map_some, Option.some.injEq] at e
      subst e
      have ed := intsD_eq h1
      subst ed
      obtain ⟨e1, _⟩ := q.ints_inv
      subst e1
      exact ⟨a, ns, rfl, t, h.atom s1 (.int _)⟩
  · cases e
theorem oAll {K : PySem.W.Frag} : BltOk K bAll (rAll K) := by
  intro A H0 H H1 F G ρ σ Q xs vs g kd sr s1 r o e h
  unfold bAll at e
  split at e
  · rename_i k ds
    obtain ⟨v, rfl, r0⟩ := r.one (d := .lst ds) rfl
    obtain ⟨a, ws, g', rfl, t, q, _, _⟩ := r0.lstI
    cases h1 : blsD ds with
    | none => rw [h1] at e; cases e
    | some ns =>
      rw [h1] at e
      simp only [Option.map_some, Option.some.injEq] at e
      subst e
      have ed := blsD_eq h1
      subst ed
      obtain ⟨e1, _⟩ := q.bls_inv
      subst e1
      exact ⟨a, ns, rfl, t, h.atom s1 (.bl _)⟩
  · cases e
theorem oAny {K : PySem.W.Frag} : BltOk K bAny (rAny K) := by
  intro A H0 H H1 F G ρ σ Q xs vs g kd sr s1 r o e h
  unfold bAny at e
  split at e
  · rename_i k ds
    obtain ⟨v, rfl, r0⟩ := r.one (d := .lst ds) rfl
    obtain ⟨a, ws, g', rfl, t, q, _, _⟩ := r0.lstI
    cases h1 : blsD ds with
    | none => rw [h1] at e; cases e
    | some ns =>
      rw [h1] at e
      simp only [Option.map_some, Option.some.injEq] at e
      subst e
      have ed := blsD_eq h1
      subst ed
      obtain ⟨e1, _⟩ := q.bls_inv
      subst e1
      exact ⟨a, ns, rfl, t, h.atom s1 (.bl _)⟩
  · cases e
def rTupA (K : PySem.W.Frag) : List V → Hp → VK → Prop := fun xs H Q => ∃ p ys, xs = [.ref p] ∧ ((SqL K H p ys ∧ ∀ l, H l = none → Q (.ref l) (upd H l (.tup ys))) ∨ (SqT K H p ys ∧ Q (.ref p) H))
def rLstA (K : PySem.W.Frag) : List V → Hp → VK → Prop := fun xs H Q => ∃ p ys, xs = [.ref p] ∧ (SqL K H p ys ∨ SqT K H p ys) ∧ ∀ l, H l = none → Q (.ref l) (upd H l (.lst ys))
theorem oTup {K : PySem.W.Frag} : BltOk K bTup (rTupA K) := by
  intro A H0 H H1 F G ρ σ Q xs vs g kd sr s1 r o e h
  unfold bTup at e
  have jk : ∀ {k : Kd} {d : D} {v : V}, Rep K H1 d v g → KOk A H0 F H H1 (jn [(k, d)]) g → KOk A H0 F H H1 k g := fun {k d v} r o => by
    have o : KOk A H0 F H H1 ((nk k d).join .own) g := o
    rw [Kd.join_own] at o
    exact KOk.nk' r o
  split at e
  · rename_i k ds
    cases e
    obtain ⟨v, rfl, r0⟩ := r.one (d := .lst ds) rfl
    obtain ⟨a, ws, g', rfl, t, q, i1, n1⟩ := r0.lstI
    exact ⟨a, ws, rfl, .inl ⟨t, fun l hl => h.newT s1 q ((jk r0 o).sub i1 n1) hl⟩⟩
  · rename_i k ds
    cases e
    obtain ⟨v, rfl, r0⟩ := r.one (d := .tup ds) rfl
    obtain ⟨a, ws, rfl, t, q⟩ := r0.tupI
    exact ⟨a, ws, rfl, .inr ⟨.of t, h _ _ g s1 (.tup t q) (jk (Rep.tup t q) o)⟩⟩
  · cases e
theorem oLst {K : PySem.W.Frag} : BltOk K bLst (rLstA K) := by
  intro A H0 H H1 F G ρ σ Q xs vs g kd sr s1 r o e h
  unfold bLst at e
  have jk : ∀ {k : Kd} {d : D} {v : V}, Rep K H1 d v g → KOk A H0 F H H1 (jn [(k, d)]) g → KOk A H0 F H H1 k g := fun {k d v} r o => by
    have o : KOk A H0 F H H1 ((nk k d).join .own) g := o
    rw [Kd.join_own] at o
    exact KOk.nk' r o
  split at e
  · rename_i k ds
    cases e
    obtain ⟨v, rfl, r0⟩ := r.one (d := .lst ds) rfl
    obtain ⟨a, ws, g', rfl, t, q, i1, n1⟩ := r0.lstI
    exact ⟨a, ws, rfl, .inl t, fun l hl => h.newL sr s1 q (((jk r0 o).sub i1 n1).lk q) hl⟩
  · rename_i k ds
    cases e
    obtain ⟨v, rfl, r0⟩ := r.one (d := .scr ds) rfl
    obtain ⟨a, ws, g', rfl, t, q, i1, n1⟩ := r0.scrI
    exact ⟨a, ws, rfl, .inl t, fun l hl => h.newL sr s1 q (((jk r0 o).sub i1 n1).lk q) hl⟩
  · rename_i k ds
    cases e
    obtain ⟨v, rfl, r0⟩ := r.one (d := .tup ds) rfl
    obtain ⟨a, ws, rfl, t, q⟩ := r0.tupI
    exact ⟨a, ws, rfl, .inr (.of t), fun l hl => h.newL sr s1 q ((jk r0 o).lk q) hl⟩
  · cases e
theorem oInt {K : PySem.W.Frag} : BltOk K bInt (fun xs H Q => (∃ i, xs = [.int i] ∧ Q (.int i) H) ∨ ∃ k, xs = [.bl k] ∧ Q (.int (if k then 1 else 0)) H) := by
  intro A H0 H H1 F G ρ σ Q xs vs g kd sr s1 r o e h
  unfold bInt at e
  split at e
  · cases e
    obtain ⟨v, rfl, r0⟩ := r.one rfl
    cases r0
    exact .inl ⟨_, rfl, h.atom s1 (.int _)⟩
  · cases e
    obtain ⟨v, rfl, r0⟩ := r.one rfl
    cases r0
    exact .inr ⟨_, rfl, h.atom s1 (.int _)⟩
  · cases e
/-! isinstance(x, T) -/
def tyD : D → String
  | .non => "NoneType" | .bl _ => "bool" | .int _ => "int" | .str _ => "str" | .tup _ => "tuple" | .lst _ => "list" | .scr _ => "list" | .dic _ => "dict" | _ => ""
/-- its type is one of these -/
def tyK : D → Bool
  | .fn _ => false | .obj _ _ _ => false | .dtk _ => false
  | .sob _ _ => false | .fdc _ => false | .exv _ _ _ _ => false | .nod _ _ => false
  | _ => true
def isiE (a : SE) (T : String) : SE := fun ρ => (a ρ).bind fun x => if tyK x.2 = true then (match kitB (tyD x.2) T with
  | some b => .ok (.own, .bl b)
  | none => .st) else .st
theorem tyD_ok {K : PySem.W.Frag} {H : Hp} {d : D} {v : V} {f : List Addr} (r : Rep K H d v f) (hk : tyK d = true) : TyX K H v (.type (tyD d)) := by
  cases r with
  | fn q => cases hk
  | obj q c n r _ => cases hk
  | dtk q n r => cases hk
  | non => exact .base .non
  | bl b => exact .base (.bl b)
  | int i => exact .base (.int i)
  | str x => exact .base (.str x)
  | tup t q => exact .base (.tup t)
  | sob q c n r => cases hk
  | fdc q n r => cases hk
  | exv q r => cases hk
  | nod q => cases hk
  | lst t q => exact .base (.lst t)
  | scw t q => exact .base (.lst t)
  | scr t q =>
    rcases t with t | ⟨o, t⟩
    · rcases t (fun _ => none) with (t | ⟨o, t⟩) | ⟨o, its, n, h1, h2, _⟩
      · cases t
      · cases t
      · exact .kList h1 h2
    · exact .base (.frz t)
  | dic t _ q => exact .base (.dK t)
section
variable {X : Cx} {CA : String → Addr} {W : WX} {p p2 pos : Pos} {e : Expr} {sa : SE} {T : String}
theorem e_isi (hm : X.mg "isinstance" = none) (ht : X.mg (Str.ofString T) = none) (hv : bootBuiltins (Str.ofString T) = some (.type T)) (ha : PE X e (tE X.K CA W sa)) (hg : Gl X "isinstance" := by rfl) (hgt : Gl X (Str.ofString T) := by rfl)
    (hn : Str.ofString T ≠ "__name__" := by decide) (hd : (Str.ofString T == ("__debug__" : Str)) = false := by decide)
    (he : starEach (e :: [.Name (Str.ofString T) p2]) X.env = (false, eval e X.env) :: starEach [.Name (Str.ofString T) p2] X.env := by rfl) (hpl : (backTo pos (starEach [.Name (Str.ofString T) p2] X.env)).any (·.1) = false := by rfl) :
    PE X (.Call (.Name "isinstance" p) [e, .Name (Str.ofString T) p2] [] pos) (tE X.K CA W (isiE sa T)) := by
  refine peI (pe_callB call_isi hg hm (by decide +kernel) (pa_cons ha (pa_cons (pe_bltn (v := .ty T) hgt ht hv rfl hn hd) pa_nil (by rfl)) he) (by decide) (by decide) he hpl) fun σ H Q ⟨A, H0, F, G, ρ, sr, h⟩ => ?_
  refine ⟨A, H0, F, G, ρ, sr, h.bind fun ⟨k, d⟩ h1 => ?_⟩
  intro v H1 f s1 r o
  by_cases hy : tyK d = true
  · simp only [hy, if_true] at h1
    cases hk : kitB (tyD d) T with
    | none => simp only [hk] at h1; exact h1.elim
    | some b =>
      simp only [hk] at h1
      exact ⟨v, .ty T, _, _, b, rfl, .ty T, tyD_ok r hy, kit_ty hk, Cont.atom h1 s1 (.bl b)⟩
  · simp only [hy, if_false, Bool.false_eq_true] at h1
    exact h1.elim
end
end Cz
set_option maxHeartbeats 1000000
/-! Cz5: stores, targets, iterables, comprehensions. -/
namespace Cz
open PySem PySem.Spec PyProof.Rows L2
/-! ### a list unpacked -/
section
variable {prog : Program} {w : World} {A : Around} {E : Value → Shared → Prop} {s : Shared}
theorem draw_list {it t : Addr} {items : Array Value} (hne : t ≠ it) : ∀ (n i : Nat) (s : Shared) (Q : List Value → Shared → Prop), s.heap.IsListIter it t i → s.heap.IsList t items → i + n ≤ items.size →
    (∀ h', h'.IsListIter it t (i + n) → Heap.SameBut it s.heap h' → Q ((items.toList.drop i).take n) { s with heap := h' }) → wpAny (model prog w) A (draw (.ref it) n) Q E s
  | 0, i, s, Q, hit, _, _, hQ => by
    show wpAny _ _ (pure []) Q E s
    exact wpAny_pure (by simpa using hQ s.heap hit (Heap.SameBut.refl ..))
  | n + 1, i, s, Q, hit, ht, hle, hQ => by
    have hlt : i < items.size := by omega
    show wpAny _ _ (pyNext (.ref it) >>= _) Q E s
    refine wpAny_bind (wpAny_pyNext_list_item hit ht (x := items[i]) (by simp [hlt]) fun h₁ hit₁ hs₁ => ?_)
    have ht₁ : h₁.IsList t items := let ⟨o, e, r⟩ := ht; ⟨o, (hs₁.2 t hne).trans e, r⟩
    refine wpAny_bind (wpAny_holding (draw_list hne n (i + 1) _ _ hit₁ ht₁ (by omega) fun h₂ hit₂ hs₂ => wpAny_pure ?_))
    have hd : items.toList.drop i = items[i] :: items.toList.drop (i + 1) := by simp [List.drop_eq_getElem_cons, hlt]
    have := hQ h₂ (by rw [show i + (n + 1) = i + 1 + n by omega]; exact hit₂) (hs₁.trans hs₂)
    rw [hd, List.take_succ_cons] at this
    exact this
theorem unpackItems_list {t : Addr} {items : Array Value} {Q : List Value → Shared → Prop} (hh : A.handled = none) (ht : s.heap.IsList t items)
    (hQ : ∀ h', Heap.ExtBut s.heap.objs.size s.heap h' → Q items.toList { s with heap := h' }) : wpAny (model prog w) A (unpackItems (.ref t) items.size none) Q E s := by
  have hlt : t ≠ s.heap.objs.size := by obtain ⟨o, ho, _⟩ := ht; exact Nat.ne_of_lt (Heap.lt_size ho)
  unfold unpackItems
  refine wpAny_bind ?_
  · unfold notIterableAtAll
    refine wpAny_bind (wpAny_specialOf ht.typeIs F.slot_list_iter.lookup ?_)
    refine wpAny_pure ?_
    simp only [Bool.false_eq_true, if_false]
    refine wpAny_bind (wpAny_holding (wpAny_pyIter_list ht ?_))
    refine wpAny_bind (wpAny_holding (draw_list hlt items.size 0 _ _ ⟨_, Heap.get?_push_size _ rfl, rfl, rfl⟩ (ht.push _) (by omega) fun h₁ hit₁ hs₁ => ?_))
    have hall : List.take items.size (List.drop 0 items.toList) = items.toList := by
      rw [List.drop_zero]; exact List.take_of_length_le (by simp)
    rw [hall]
    rw [if_neg (by simp)]
    have ht₁ : h₁.IsList t items := let ⟨o, e, r⟩ := ht.push _; ⟨o, (hs₁.2 t hlt).trans e, r⟩
    refine wpAny_bind (wpAny_holding (wpAny_pyNext_list_end hh hit₁ ht₁ (by simp) fun h₂ he₂ => ?_))
    simp only [Option.isSome_none, Bool.false_eq_true, if_false]
    refine wpAny_pure (hQ h₂ fun b o hb e => he₂ b o hb (hs₁.extBut b o hb (Heap.get?_push_of_some _ e)))
theorem assign_Tuple_list {env : PySem.Env} {elts : List Expr} {x1} {pos : Pos} {t : Addr} {items : Array Value} {Q : Unit → Shared → Prop} (hh : A.handled = none) (ht : s.heap.IsList t items)
    (hn : (assignEach elts env).length = items.size) (hstar : (assignEach elts env).findIdx? (·.1) = none)
    (h : ∀ h', Heap.ExtBut s.heap.objs.size s.heap h' → wpAny (model prog w) A (assignInOrder ((assignEach elts env).map (·.2)) items.toList) Q E { s with heap := h' }) :
    wpAny (model prog w) A (assign (.Tuple elts x1 pos) env (.ref t)) Q E s := by
  rw [assign_Tuple]
  refine wpAny_bind (wpAny_standAt ?_)
  unfold unpack
  rw [hn, hstar]
  exact wpAny_bind (wpAny_holding (unpackItems_list hh ht h))
end
def gTupL (K : PySem.W.Frag) (n : Nat) (t : TGs) : TG := fun v σ H Q => ∃ a xs, v = .ref a ∧ (SqT K H a xs ∨ SqL K H a xs) ∧ xs.length = n ∧ t xs σ H Q
theorem pg_tupL {X : Cx} {pos : Pos} {es : List Expr} {k : Nat} {t : TGs} {n : Nat} (hc : X.calm = true) (h : PGs X es t)
    (hn : (assignEach es X.env).length = n) (hst : (assignEach es X.env).findIdx? (·.1) = none) : PG X (.Tuple es k pos) (gTupL X.K n t) := by
  refine ⟨fun pins s σ H v u Q I r hw => ?_⟩
  obtain ⟨a, xs, e1, hq, hl, hw⟩ := hw
  subst e1
  cases r
  rcases hq with hq | hq
  · obtain ⟨its, rv, ht, hz⟩ := I.tuple hq
    refine assign_Tuple_tuple (I.ok.hd hc) ht (by simp [hn, ← hl, rv.length]) hst fun h' hx => ?_
    have I1 : Inv X pins σ H { s with heap := h' } := I.kept (t' := s.toks) fun b o e => hx b o (Nat.ne_of_lt (Heap.lt_size e)) e
    exact h.run pins _ σ H xs _ Q I1 (by simpa using rv) hw
  · obtain ⟨its, rv, ht, hz⟩ := I.list hq
    refine assign_Tuple_list (I.ok.hd hc) ht.isList (by simp [hn, ← hl, rv.length]) hst fun h' hx => ?_
    have I1 : Inv X pins σ H { s with heap := h' } := I.kept (t' := s.toks) fun b o e => hx b o (Nat.ne_of_lt (Heap.lt_size e)) e
    exact h.run pins _ σ H xs _ Q I1 (by simpa using rv) hw
/-! ### stores -/
def mkS : Kd → D → Sl
  | _, .int i => .bo [] (.int i)
  | _, .bl i => .bo [] (.bl i)
  | _, .str i => .bo [] (.str i)
  | _, .non => .bo [] .non
  | .own, d => .ow d
  | .bor is, d => .bo is d
def updF (F : Nat → List Addr) (i : Nat) (f : List Addr) : Nat → List Addr := fun j => if j = i then f else F j
@[simp] theorem updF_same {F : Nat → List Addr} {i : Nat} {f : List Addr} : updF F i f i = f := if_pos rfl
theorem updF_ne {F : Nat → List Addr} {i j : Nat} {f : List Addr} (h : j ≠ i) : updF F i f j = F j := if_neg h
def ndF (k : Kd) (f : List Addr) : List Addr := match k with
  | .own => f
  | .bor _ => []
section
variable {K : PySem.W.Frag} {A : Addr → Prop} {H0 H H1 H2 : Hp} {F : Nat → List Addr} {G : List (D × V)} {ρ : Env} {σ : L2.St}
/-- what is known of nodes stays when slot i gets others, that are new or none -/
theorem Sh.upd {i : Nat} {f : List Addr} {a : Addr} (sr : SR K A H0 F G ρ σ H) (hf : ∀ b ∈ f, H b = none) (ha : H a ≠ none) (h : Sh A H0 F a) : Sh A H0 (updF F i f) a :=
  ⟨h.1, fun j hj => by
    by_cases e : j = i
    · subst e; rw [updF_same] at hj; exact ha (hf a hj)
    · rw [updF_ne e] at hj; exact h.2 j hj⟩
theorem BOk.upd {i : Nat} {f g : List Addr} {is : List Nat} (sr : SR K A H0 F G ρ σ H) (hf : ∀ b ∈ f, H b = none) (hg : ∀ a ∈ g, H a ≠ none) (h : BOk A H0 F is g) : BOk A H0 (updF F i f) is g := fun a ha => by
  rcases h a ha with ⟨j, hj, q⟩ | q
  · by_cases e : j = i
    · subst e
      refine .inr ⟨.inr ((sr.own j).2 a q).1, fun m hm => ?_⟩
      by_cases e : m = j
      · subst e; rw [updF_same] at hm; exact hg a ha (hf a hm)
      · rw [updF_ne e] at hm; exact e (sr.dis _ _ a hm q)
    · exact .inl ⟨j, hj, by rw [updF_ne e]; exact q⟩
  · exact .inr (q.upd sr hf (hg a ha))
theorem fin_upd {i : Nat} {f : List Addr} (h : ∃ L, ∀ j, L ≤ j → F j = []) : ∃ L, ∀ j, L ≤ j → updF F i f j = [] := by
  obtain ⟨L, h⟩ := h
  refine ⟨max L (i + 1), fun j hj => ?_⟩
  rw [updF_ne (by omega)]
  exact h j (by omega)
/-- slot i gets v, its nodes f: new ones of its own (made behind H), or others' -/
theorem SR.set {k : Kd} {d : D} {v : V} {f : List Addr} (sr : SR K A H0 F G ρ σ H) (s : Same H H1) (r : Rep K H1 d v f) (o : KOk A H0 F H H1 k f) (i : Nat) :
    ∃ f', SR K A H0 (updF F i f') G (ρ.set i (mkS k d)) (σ.set i (some v)) H1 ∧ (∀ b ∈ f', H b = none) ∧ (k ≠ .own → f' = []) := by
  have sr1 := sr.same s
  -- the new nodes
  have main : ∀ f', (∀ b ∈ f', H b = none) → (f'.Nodup ∧ ∀ a ∈ f', Mu (H1 a)) → (∀ d', mkS k d = .ow d' → d' = d ∧ f' = f) → (∀ is d', mkS k d = .bo is d' → d' = d ∧ ∀ a ∈ f, (∃ j ∈ is, a ∈ updF F i f' j) ∨ Sh A H0 (updF F i f') a) → (f' ≠ [] → ∃ d', mkS k d = .ow d') →
      SR K A H0 (updF F i f') G (ρ.set i (mkS k d)) (σ.set i (some v)) H1 := fun f' hf hm ho hb he => by
    refine ⟨by rw [List.length_set, List.length_set]; exact sr.len, sr1.fr, fun j => ?_, fun j m a hj hm' => ?_, fun j d' e => ?_, fun j is d' e => ?_, fun p hp => ?_, fun j hj hn => ?_, fin_upd sr.fin⟩
    · by_cases e : j = i
      · subst e; rw [updF_same]; exact ⟨hm.1, fun a ha => ⟨sr.fr.free (hf a ha), hm.2 a ha⟩⟩
      · rw [updF_ne e]; exact sr1.own j
    · by_cases e : j = i
      · by_cases e' : m = i
        · rw [e, e']
        · rw [e, updF_same] at hj; rw [updF_ne e'] at hm'
          exact absurd (hf a hj) (((sr.own m).2 a hm').2.ne)
      · by_cases e' : m = i
        · rw [e', updF_same] at hm'; rw [updF_ne e] at hj
          exact absurd (hf a hm') (((sr.own j).2 a hj).2.ne)
        · rw [updF_ne e] at hj; rw [updF_ne e'] at hm'; exact sr.dis j m a hj hm'
    · by_cases h : i = j
      · subst h
        by_cases hl : i < ρ.length
        · rw [List.getElem?_set_self hl] at e
          obtain ⟨e1, e2⟩ := ho d' (Option.some.inj e)
          subst e1; subst e2
          refine ⟨v, by rw [List.getElem?_set_self (by rw [← sr.len]; exact hl)], by rw [updF_same]; exact r⟩
        · rw [List.getElem?_eq_none (by simpa using hl)] at e; cases e
      · rw [List.getElem?_set_ne h] at e; rw [List.getElem?_set_ne h, updF_ne (Ne.symm h)]; exact sr1.slo j d' e
    · by_cases h : i = j
      · subst h
        by_cases hl : i < ρ.length
        · rw [List.getElem?_set_self hl] at e
          obtain ⟨e1, e2⟩ := hb is d' (Option.some.inj e)
          subst e1
          refine ⟨v, f, by rw [List.getElem?_set_self (by rw [← sr.len]; exact hl)], r, e2⟩
        · rw [List.getElem?_eq_none (by simpa using hl)] at e; cases e
      · rw [List.getElem?_set_ne h] at e; rw [List.getElem?_set_ne h]
        obtain ⟨v', g, h1, h2, h3⟩ := sr.slb j is d' e
        exact ⟨v', g, h1, h2.same s, h3.upd sr hf h2.trk⟩
    · obtain ⟨g, h1, h2⟩ := sr.gho p hp
      exact ⟨g, h1.same s, fun a ha => (h2 a ha).upd sr hf (h1.trk a ha)⟩
    · rw [List.length_set] at hj
      by_cases h : i = j
      · subst h
        rw [updF_same] at hn
        obtain ⟨d', e'⟩ := he hn
        exact ⟨d', by rw [List.getElem?_set_self hj, e']⟩
      · rw [updF_ne (Ne.symm h)] at hn
        obtain ⟨d', e'⟩ := sr.emp j hj hn
        exact ⟨d', by rw [List.getElem?_set_ne h]; exact e'⟩
  have atom : f = [] → mkS k d = .bo [] d → ∃ f', SR K A H0 (updF F i f') G (ρ.set i (mkS k d)) (σ.set i (some v)) H1 ∧ (∀ b ∈ f', H b = none) ∧ (k ≠ .own → f' = []) := fun e1 e2 =>
    ⟨[], main [] (fun b hb => nomatch hb) ⟨List.nodup_nil, fun a ha => nomatch ha⟩ (fun d' e => by rw [e2] at e; cases e) (fun is d' e => by rw [e2] at e; cases e; exact ⟨rfl, fun a ha => by rw [e1] at ha; cases ha⟩) (fun z => absurd rfl z), (fun b hb => nomatch hb), fun _ => rfl⟩
  have big : mkS k d = (match k with | .own => .ow d | .bor is => .bo is d) → ∃ f', SR K A H0 (updF F i f') G (ρ.set i (mkS k d)) (σ.set i (some v)) H1 ∧ (∀ b ∈ f', H b = none) ∧ (k ≠ .own → f' = []) := fun e => by
    cases k with
    | own => exact ⟨f, main f (fun b hb => (o.2 b hb).1) ⟨o.1, fun a ha => (o.2 a ha).2⟩ (fun d' e' => by rw [e] at e'; cases e'; exact ⟨rfl, rfl⟩) (fun is d' e' => by rw [e] at e'; cases e') (fun _ => ⟨d, e⟩), fun b hb => (o.2 b hb).1, fun z => absurd rfl z⟩
    | bor js =>
      refine ⟨[], main [] (fun b hb => nomatch hb) ⟨List.nodup_nil, fun a ha => nomatch ha⟩ (fun d' e' => by rw [e] at e'; cases e') (fun is d' e' => ?_) (fun z => absurd rfl z), (fun b hb => nomatch hb), fun _ => rfl⟩
      rw [e] at e'; cases e'
      exact ⟨rfl, BOk.upd sr1 (f := []) (fun b hb => nomatch hb) r.trk o⟩
  cases d with
  | int n => cases r; exact atom rfl (by cases k <;> rfl)
  | bl n => cases r; exact atom rfl (by cases k <;> rfl)
  | str n => cases r; exact atom rfl (by cases k <;> rfl)
  | non => cases r; exact atom rfl (by cases k <;> rfl)
  | _ => exact big (by cases k <;> rfl)
end
/-! ### targets -/
abbrev Tgt := Kd → D → Env → Option Env
abbrev Tgts := List Nat → List D → Env → Option Env
def tgN (i : Nat) : Tgt := fun k d ρ => some (ρ.set i (mkS k d))
def tgT (t : Tgts) : Tgt := fun k d ρ => match d with
  | .tup ds => t k.is ds ρ
  | .lst ds => t k.is ds ρ
  | _ => none
def tgNil : Tgts := fun _ ds ρ => match ds with
  | [] => some ρ
  | _ :: _ => none
def tgCons (t : Tgt) (r : Tgts) : Tgts := fun is ds ρ => match ds with
  | [] => none
  | d :: ds => (t (.bor is) d ρ).bind fun ρ' => r is ds ρ'
/-- what is known of nodes is carried over -/
def Trn (A : Addr → Prop) (H0 H : Hp) (F F' : Nat → List Addr) : Prop := ∀ js g, (∀ a ∈ g, H a ≠ none) → BOk A H0 F js g → BOk A H0 F' js g
/-- behind a target -/
structure TP (K : PySem.W.Frag) (A : Addr → Prop) (H0 Hb H : Hp) (F F' : Nat → List Addr) (G : List (D × V)) (ρ' : Env) (σ σ' : L2.St) (sl : List Nat) (b : Bool) : Prop where
  sr : SR K A H0 F' G ρ' σ' H
  tr : Trn A H0 Hb F F'
  len : σ'.length = σ.length
  out : ∀ j, j ∉ sl → σ'[j]? = σ[j]? ∧ F' j = F j
  bor : b = true → ∀ j ∈ sl, F' j = []
def Kd.isB : Kd → Bool
  | .own => false
  | .bor _ => true
def tG (K : PySem.W.Frag) (sl : List Nat) (t : Tgt) : TG := fun v σ H Q => ∃ A H0 Hb F G ρ k d f, SR K A H0 F G ρ σ Hb ∧ Same Hb H ∧ Rep K H d v f ∧ KOk A H0 F Hb H k f ∧
  match t k d ρ with
  | some ρ' => ∀ σ' F', TP K A H0 Hb H F F' G ρ' σ σ' sl k.isB → Q σ' H
  | none => False
def tGs (K : PySem.W.Frag) (sl : List Nat) (t : Tgts) : TGs := fun vs σ H Q => ∃ A H0 F G ρ is ds f, SR K A H0 F G ρ σ H ∧ Reps K H ds vs f ∧ BOk A H0 F is f ∧
  match t is ds ρ with
  | some ρ' => ∀ σ' F', TP K A H0 H H F F' G ρ' σ σ' sl true → Q σ' H
  | none => False
section
variable {X : Cx} {pos : Pos}
theorem pgI {e : Expr} {t t' : TG} (h : PG X e t) (k : ∀ v σ H Q, t' v σ H Q → t v σ H Q) : PG X e t' := ⟨fun pins s σ H v u Q I r q => h.run pins s σ H v u Q I r (k v σ H Q q)⟩
theorem pgsI {e : List Expr} {t t' : TGs} (h : PGs X e t) (k : ∀ v σ H Q, t' v σ H Q → t v σ H Q) : PGs X e t' := ⟨fun pins s σ H v u Q I r q => h.run pins s σ H v u Q I r (k v σ H Q q)⟩
theorem g_nm (i : Nat) {x : Str} (hN : X.N.Nodup) (hi : X.N[i]? = some x := by rfl) (hx : Loc X.env.scope x := by first | exact Or.inl rfl | exact Or.inr rfl) (hf : X.fn x = true ∨ X.env.scope.names.lookup x = some .local := by first | exact .inl rfl | exact .inr rfl | assumption) :
    PG X (.Name x pos) (tG X.K [i] (tgN i)) := by
  refine pgI (pg_name hN hi hx hf) fun v σ H Q ⟨A, H0, Hb, F, G, ρ, k, d, f, sr, s, r, o, h⟩ => ?_
  obtain ⟨f', sr', hf', hb⟩ := sr.set s r o i
  refine h _ _ ⟨sr', fun js g hg hb => hb.upd sr hf' hg, by rw [List.length_set], fun j hj => ?_, fun hk j hj => ?_⟩
  · have hj : j ≠ i := by simpa using hj
    exact ⟨by rw [List.getElem?_set_ne (Ne.symm hj)], updF_ne hj⟩
  · have hj : j = i := by simpa using hj
    subst hj
    rw [updF_same]
    exact hb (fun z => by rw [z] at hk; cases hk)
theorem gs_nil : PGs X [] (tGs X.K [] tgNil) := by
  refine pgsI pgs_nil fun vs σ H Q ⟨A, H0, F, G, ρ, is, ds, f, sr, r, o, h⟩ => ?_
  cases r with
  | nil => exact ⟨rfl, h _ _ ⟨sr, fun _ _ _ q => q, rfl, fun _ _ => ⟨rfl, rfl⟩, fun _ j hj => nomatch hj⟩⟩
  | cons _ _ => exact h.elim
theorem gs_cons {e : Expr} {es : List Expr} {t : Tgt} {u : Tgts} {sl sl' : List Nat} (h1 : PG X e (tG X.K sl t)) (h2 : PGs X es (tGs X.K sl' u))
    (hs : (assignEach (e :: es) X.env).map (·.2) = assign e X.env :: (assignEach es X.env).map (·.2) := by rfl) : PGs X (e :: es) (tGs X.K (sl ++ sl') (tgCons t u)) := by
  refine pgsI (pgs_cons h1 h2 hs) fun vs σ H Q ⟨A, H0, F, G, ρ, is, ds, f, sr, r, o, h⟩ => ?_
  cases r with
  | nil => exact h.elim
  | @cons d v f1 ds vs f2 r rr =>
    refine ⟨_, _, rfl, A, H0, H, F, G, ρ, .bor is, _, f1, sr, Same.refl _, r, fun a ha => o a (List.mem_append_left _ ha), ?_⟩
    have h : match (t (.bor is) d ρ).bind fun ρ' => u is ds ρ' with
      | some ρ' => ∀ σ' F', TP X.K A H0 H H F F' G ρ' σ σ' (sl ++ sl') true → Q σ' H
      | none => False := h
    cases ht : t (.bor is) d ρ with
    | none => rw [ht] at h; exact h.elim
    | some ρ1 =>
      rw [ht] at h
      intro σ1 F1 p1
      refine ⟨A, H0, F1, G, ρ1, is, ds, f2, p1.sr, rr, p1.tr _ _ rr.trk fun a ha => o a (List.mem_append_right _ ha), ?_⟩
      have h : match u is ds ρ1 with
        | some ρ' => ∀ σ' F', TP X.K A H0 H H F F' G ρ' σ σ' (sl ++ sl') true → Q σ' H
        | none => False := h
      cases hu : u is ds ρ1 with
      | none => rw [hu] at h; exact h.elim
      | some ρ2 =>
        rw [hu] at h
        intro σ2 F2 p2
        refine h σ2 F2 ⟨p2.sr, fun js g hg hb => p2.tr js g hg (p1.tr js g hg hb), p2.len.trans p1.len, fun j hj => ?_, fun _ j hj => ?_⟩
        · have hj1 : j ∉ sl := fun z => hj (List.mem_append_left _ z)
          have hj2 : j ∉ sl' := fun z => hj (List.mem_append_right _ z)
          exact ⟨(p2.out j hj2).1.trans (p1.out j hj1).1, (p2.out j hj2).2.trans (p1.out j hj1).2⟩
        · by_cases hj2 : j ∈ sl'
          · exact p2.bor rfl j hj2
          · rw [(p2.out j hj2).2]
            exact p1.bor rfl j ((List.mem_append.mp hj).resolve_right hj2)
/-- the targets take so many -/
def TgLen (t : Tgts) (n : Nat) : Prop := ∀ is ds ρ, t is ds ρ ≠ none → ds.length = n
theorem tgLen_nil : TgLen tgNil 0 := fun is ds ρ h => by
  cases ds with
  | nil => rfl
  | cons _ _ => exact absurd rfl h
theorem tgLen_cons {t : Tgt} {u : Tgts} {n : Nat} (h : TgLen u n) : TgLen (tgCons t u) (n + 1) := fun is ds ρ q => by
  cases ds with
  | nil => exact absurd rfl q
  | cons d ds =>
    have q : (t (.bor is) d ρ).bind (fun ρ' => u is ds ρ') ≠ none := q
    cases ht : t (.bor is) d ρ with
    | none => rw [ht] at q; exact absurd rfl q
    | some ρ1 => rw [ht] at q; rw [List.length_cons, h is ds ρ1 q]
theorem g_tup {es : List Expr} {k : Nat} {t : Tgts} {n : Nat} {sl : List Nat} (hc : X.calm = true) (hl : TgLen t n) (h : PGs X es (tGs X.K sl t))
    (hn : (assignEach es X.env).length = n := by rfl) (hst : (assignEach es X.env).findIdx? (·.1) = none := by rfl) : PG X (.Tuple es k pos) (tG X.K sl (tgT t)) := by
  refine pgI (pg_tupL hc h hn hst) fun v σ H Q ⟨A, H0, Hb, F, G, ρ, kk, d, f, sr, s, r, o, q⟩ => ?_
  have bk := o.bok sr
  have fin : ∀ ds vs g, Reps X.K H ds vs g → (∀ b ∈ g, b ∈ f) → (match t kk.is ds ρ with
      | some ρ' => ∀ σ' F', TP X.K A H0 Hb H F F' G ρ' σ σ' sl kk.isB → Q σ' H
      | none => False) → vs.length = n ∧ tGs X.K sl t vs σ H Q := fun ds vs g q1 i1 q2 => by
    cases ht : t kk.is ds ρ with
    | none => rw [ht] at q2; exact q2.elim
    | some ρ1 =>
      rw [ht] at q2
      refine ⟨by rw [← q1.length]; exact hl _ _ _ (by rw [ht]; exact fun z => nomatch z), A, H0, F, G, ρ, kk.is, ds, g, sr.same s, q1, fun a ha => bk a (i1 a ha), ?_⟩
      rw [ht]
      intro σ' F' p
      exact q2 σ' F' ⟨p.sr, fun js g hg hb => p.tr js g (fun a ha z => hg a ha (s.free z)) hb, p.len, p.out, fun _ => p.bor rfl⟩
  cases d with
  | tup ds =>
    obtain ⟨a, vs, rfl, t1, q1⟩ := r.tupI
    obtain ⟨e1, e2⟩ := fin ds vs f q1 (fun _ h => h) q
    exact ⟨a, vs, rfl, .inl (.of t1), e1, e2⟩
  | lst ds =>
    obtain ⟨a, vs, g, rfl, t1, q1, i1, n1⟩ := r.lstI
    obtain ⟨e1, e2⟩ := fin ds vs g q1 i1 q
    exact ⟨a, vs, rfl, .inr t1, e1, e2⟩
  | _ => exact q.elim
end
end Cz
set_option maxHeartbeats 1000000
/-! Cz6: iterables and list comprehensions. -/
namespace Cz
open PySem PySem.Spec PyProof.Rows L2
abbrev SI := Env → R (Kd × List D)
def Gh (K : PySem.W.Frag) (H : Hp) (P : Addr → Prop) (gh : List (D × V)) : Prop := ∀ p ∈ gh, ∃ f, Rep K H p.1 p.2 f ∧ ∀ a ∈ f, P a
/-- the walk J gives ds, while gh stands -/
structure IterOk (K : PySem.W.Frag) (J : It) (ds : List D) (gh : List (D × V)) : Prop where
  go : ∀ H P i, i < ds.length → Gh K H P gh → J.go i H
  stop : ∀ H P, Gh K H P gh → J.stop ds.length H
  yld : ∀ H P i x H', i < ds.length → Gh K H P gh → J.yld i H x H' → Same H H' ∧ ∃ d f, ds[i]? = some d ∧ Rep K H' d x f ∧ ∀ a ∈ f, P a
def tI (K : PySem.W.Frag) (CA : String → Addr) (W : WX) (s : SI) : TI := fun σ H R =>
  ∃ A H0 F G ρ, SR K A H0 F G ρ σ H ∧ Post K CA W σ H (s ρ) fun kds => ∀ J H1 gh, Same H H1 → IterOk K J kds.2 gh → Gh K H1 (fun a => (∃ j ∈ kds.1.is, a ∈ F j) ∨ Sh A H0 F a) gh → R J H1
theorem Gh.same {K : PySem.W.Frag} {H H' : Hp} {P : Addr → Prop} {gh : List (D × V)} (h : Gh K H P gh) (s : Same H H') : Gh K H' P gh := fun p hp => let ⟨f, h1, h2⟩ := h p hp; ⟨f, h1.same s, h2⟩
/-! ### lists, tuples, texts -/
def iSeq (K : PySem.W.Frag) (tl : TE) : TI := fun σ H R => tl σ H fun x H1 => (∃ a, x = .ref a ∧ (∃ xs, SqL K H1 a xs) ∧ R (Itl K a) H1) ∨ (∃ a, x = .ref a ∧ (∃ xs, SqT K H1 a xs) ∧ R (Itt K a) H1) ∨ (∃ z, x = .str z ∧ R (Its z) H1)
theorem pi_seq {X : Cx} {tg l : Expr} {tl : TE} (hl : PE X l tl) : PI X tg l (iSeq X.K tl) := by
  refine ⟨fun pins s σ H R I h => ?_⟩
  refine thn (hl.run pins s σ H _ I h) fun v s1 ⟨x, H1, I1, r1, q1⟩ => ?_
  rcases q1 with ⟨a, e, ⟨xs, hq⟩, q⟩ | ⟨a, e, ⟨xs, hq⟩, q⟩ | ⟨z, e, q⟩
  · subst e
    cases r1
    obtain ⟨its, rv, p, hz⟩ := I1.list hq
    refine wpAny_pyIter_list p.isList ?_
    refine ⟨s1.heap.objs.size, [s1.heap.objs.size], _, _, H1, rfl, I1.kept (t' := s1.toks) fun b o e => Heap.get?_push_of_some _ e, turn_list a _, ⟨_, Heap.get?_push_size _ rfl, rfl, rfl⟩, fun b hb => ?_, q⟩
    have e : b = s1.heap.objs.size := by simpa using hb
    subst e
    exact I1.fpOk (Nat.le_refl _) (I1.hok.fresh (Nat.le_refl _))
  · subst e
    cases r1
    obtain ⟨its, rv, p, hz⟩ := I1.tuple hq
    refine wpAny_pyIter_tuple (show s1.heap.IsTuple a its.toArray from p) ?_
    refine ⟨s1.heap.objs.size, [s1.heap.objs.size], _, _, H1, rfl, I1.kept (t' := s1.toks) fun b o e => Heap.get?_push_of_some _ e, turn_tuple a _, ⟨_, Heap.get?_push_size _ rfl, rfl, rfl⟩, fun b hb => ?_, q⟩
    have e : b = s1.heap.objs.size := by simpa using hb
    subst e
    exact I1.fpOk (Nat.le_refl _) (I1.hok.fresh (Nat.le_refl _))
  · subst e
    obtain ⟨t, rfl⟩ := r1
    cases ha : z.cps.all (· < 128)
    · exact wpAny_pyIter_wide ha (pi_one (tk := s1.toks) I1 _ (turn_str _ z t "str_iterator" (.inr rfl)) ⟨_, Heap.get?_push_size _ rfl, rfl, rfl⟩ q)
    · exact wpAny_pyIter_ascii ha (pi_one (tk := s1.toks) I1 _ (turn_str _ z t "str_ascii_iterator" (.inl rfl)) ⟨_, Heap.get?_push_size _ rfl, rfl, rfl⟩ q)
def seqI (s : SE) : SI := fun ρ => (s ρ).bind fun x => match x.2 with
  | .lst ds => .ok (x.1, ds)
  | .scr ds => .ok (x.1, ds)
  | .tup ds => .ok (x.1, ds)
  | .str z => .ok (.own, z.cps.toList.map fun c => .str ⟨#[c]⟩)
  | _ => .st
section
variable {K : PySem.W.Frag}
theorem iter_lst {ds : List D} {a : Addr} : IterOk K (Itl K a) ds [(.lst ds, .ref a)] := by
  have get : ∀ {H P}, Gh K H P [(.lst ds, .ref a)] → ∃ vs g, SqL K H a vs ∧ Reps K H ds vs g ∧ ∀ b ∈ g, P b := fun {H P} h => by
    obtain ⟨f, r, hp⟩ := h _ List.mem_cons_self
    obtain ⟨a', vs, g, e, t, q, i, n⟩ := r.lstI
    cases e
    exact ⟨vs, g, t, q, fun b hb => hp b (i b hb)⟩
  refine ⟨fun H P i hi h => ?_, fun H P h => ?_, fun H P i x H' hi h y => ?_⟩
  · obtain ⟨vs, g, t, q, _⟩ := get h
    have hv : i < vs.length := by rw [← q.length]; exact hi
    exact ⟨vs, vs[i], t, by simp [hv]⟩
  · obtain ⟨vs, g, t, q, _⟩ := get h
    exact ⟨vs, t, by rw [q.length]; exact Nat.le_refl _⟩
  · obtain ⟨vs, g, t, q, hp⟩ := get h
    obtain ⟨e, y⟩ := y
    subst e
    obtain ⟨v, g', h1, h2, h3, _⟩ := q.get (i := i) (d := ds[i]) (by simp [hi])
    rw [y vs t] at h1
    cases h1
    exact ⟨Same.refl _, ds[i], g', by simp [hi], h2, fun b hb => hp b (h3 b hb)⟩
theorem iter_scr {ds : List D} {a : Addr} : IterOk K (Itl K a) ds [(.scr ds, .ref a)] := by
  have get : ∀ {H P}, Gh K H P [(.scr ds, .ref a)] → ∃ vs g, SqL K H a vs ∧ Reps K H ds vs g ∧ ∀ b ∈ g, P b := fun {H P} h => by
    obtain ⟨f, r, hp⟩ := h _ List.mem_cons_self
    obtain ⟨a', vs, g, e, t, q, i, n⟩ := r.scrI
    cases e
    exact ⟨vs, g, t, q, fun b hb => hp b (i b hb)⟩
  refine ⟨fun H P i hi h => ?_, fun H P h => ?_, fun H P i x H' hi h y => ?_⟩
  · obtain ⟨vs, g, t, q, _⟩ := get h
    have hv : i < vs.length := by rw [← q.length]; exact hi
    exact ⟨vs, vs[i], t, by simp [hv]⟩
  · obtain ⟨vs, g, t, q, _⟩ := get h
    exact ⟨vs, t, by rw [q.length]; exact Nat.le_refl _⟩
  · obtain ⟨vs, g, t, q, hp⟩ := get h
    obtain ⟨e, y⟩ := y
    subst e
    obtain ⟨v, g', h1, h2, h3, _⟩ := q.get (i := i) (d := ds[i]) (by simp [hi])
    rw [y vs t] at h1
    cases h1
    exact ⟨Same.refl _, ds[i], g', by simp [hi], h2, fun b hb => hp b (h3 b hb)⟩
theorem iter_tup {ds : List D} {a : Addr} : IterOk K (Itt K a) ds [(.tup ds, .ref a)] := by
  have get : ∀ {H P}, Gh K H P [(.tup ds, .ref a)] → ∃ vs g, SqT K H a vs ∧ Reps K H ds vs g ∧ ∀ b ∈ g, P b := fun {H P} h => by
    obtain ⟨f, r, hp⟩ := h _ List.mem_cons_self
    obtain ⟨a', vs, e, t, q⟩ := r.tupI
    cases e
    exact ⟨vs, f, .of t, q, hp⟩
  refine ⟨fun H P i hi h => ?_, fun H P h => ?_, fun H P i x H' hi h y => ?_⟩
  · obtain ⟨vs, g, t, q, _⟩ := get h
    have hv : i < vs.length := by rw [← q.length]; exact hi
    exact ⟨vs, vs[i], t, by simp [hv]⟩
  · obtain ⟨vs, g, t, q, _⟩ := get h
    exact ⟨vs, t, by rw [q.length]; exact Nat.le_refl _⟩
  · obtain ⟨vs, g, t, q, hp⟩ := get h
    obtain ⟨e, y⟩ := y
    subst e
    obtain ⟨v, g', h1, h2, h3, _⟩ := q.get (i := i) (d := ds[i]) (by simp [hi])
    rw [y vs t] at h1
    cases h1
    exact ⟨Same.refl _, ds[i], g', by simp [hi], h2, fun b hb => hp b (h3 b hb)⟩
theorem iter_str {z : Str} : IterOk K (Its z) (z.cps.toList.map fun c => .str ⟨#[c]⟩) [] := by
  refine ⟨fun H P i hi h => ?_, fun H P h => ?_, fun H P i x H' hi h y => ?_⟩
  · have hi : i < z.cps.size := by simpa using hi
    exact hi
  · show z.cps.size ≤ _
    simp
  · obtain ⟨e, c, hc, ex⟩ := y
    subst e; subst ex
    exact ⟨Same.refl _, _, [], by simp [hc], .str _, fun _ q => nomatch q⟩
theorem Gh.one {H : Hp} {P : Addr → Prop} {d : D} {v : V} {f : List Addr} (r : Rep K H d v f) (h : ∀ a ∈ f, P a) : Gh K H P [(d, v)] := fun p hp => by
  rw [List.mem_singleton.mp hp]; exact ⟨f, r, h⟩
end
section
variable {X : Cx} {CA : String → Addr} {W : WX} {pos p : Pos} {tg e a b : Expr} {sa sb : SE}
theorem piI {iter : Expr} {t t' : TI} (h : PI X tg iter t) (k : ∀ σ H R, t' σ H R → t σ H R) : PI X tg iter t' := ⟨fun pins s σ H R I q => h.run pins s σ H R I (k σ H R q)⟩
theorem i_seq (ha : PE X e (tE X.K CA W sa)) : PI X tg e (tI X.K CA W (seqI sa)) := by
  refine piI (pi_seq ha) fun σ H R ⟨A, H0, F, G, ρ, sr, h⟩ => ?_
  refine ⟨A, H0, F, G, ρ, sr, h.bind fun ⟨k, d⟩ h1 => ?_⟩
  intro v H1 f s1 r o
  cases d with
  | lst ds =>
    obtain ⟨a, vs, g, rfl, t, q, i1, n1⟩ := id r.lstI
    exact .inl ⟨a, rfl, ⟨vs, t⟩, h1 _ _ _ s1 iter_lst (Gh.one r (o.bok sr))⟩
  | scr ds =>
    obtain ⟨a, vs, g, rfl, t, q, i1, n1⟩ := id r.scrI
    exact .inl ⟨a, rfl, ⟨vs, t⟩, h1 _ _ _ s1 iter_scr (Gh.one r (o.bok sr))⟩
  | tup ds =>
    obtain ⟨a, vs, rfl, t, q⟩ := id r.tupI
    exact .inr (.inl ⟨a, rfl, ⟨vs, .of t⟩, h1 _ _ _ s1 iter_tup (Gh.one r (o.bok sr))⟩)
  | str z =>
    cases r
    exact .inr (.inr ⟨z, rfl, h1 _ _ _ s1 iter_str (fun p hp => nomatch hp)⟩)
  | _ => exact h1.elim
/-! ranges -/
noncomputable def rgOk (i : Int) : Bool := @decide (-(2 ^ 62) ≤ i) (Classical.propDecidable _) && @decide (i < 2 ^ 62) (Classical.propDecidable _)
def rng (lo : Int) (n : Nat) : List D := (List.range n).map fun (i : Nat) => .int (lo + (i : Int))
theorem rgOk_lo {i : Int} (h : rgOk i = true) : -(2 ^ 62) ≤ i := @of_decide_eq_true _ (Classical.propDecidable _) (Bool.and_eq_true_iff.mp h).1
theorem rgOk_hi {i : Int} (h : rgOk i = true) : i < 2 ^ 62 := @of_decide_eq_true _ (Classical.propDecidable _) (Bool.and_eq_true_iff.mp h).2
noncomputable def rng1I (a : SE) : SI := fun ρ => (a ρ).bind fun x => match x.2 with
  | .int j => if rgOk j = true then .ok (.own, rng 0 j.toNat) else .st
  | _ => .st
noncomputable def rng2I (a b : SE) : SI := fun ρ => (a ρ).bind fun x => (b ρ).bind fun y => match x.2, y.2 with
  | .int i, .int j => if (rgOk i && rgOk j) = true then .ok (.own, rng i (j - i).toNat) else .st
  | _, _ => .st
theorem iter_rng {K : PySem.W.Frag} {lo : Int} {n : Nat} : IterOk K (Itr lo n) (rng lo n) [] := by
  refine ⟨fun H P i hi h => ?_, fun H P h => ?_, fun H P i x H' hi h y => ?_⟩
  · show i < n
    simpa [rng] using hi
  · show n ≤ _
    simp [rng]
  · obtain ⟨e, ex⟩ := y
    subst e; subst ex
    have hi : i < n := by simpa [rng] using hi
    exact ⟨Same.refl _, .int (lo + i), [], by simp [rng, hi], .int _, fun _ q => nomatch q⟩
theorem i_rng1 (hm : X.mg "range" = none) (ha : PE X a (tE X.K CA W sa)) (hg : Gl X "range" := by rfl) (hs : starEach [a] X.env = [(false, eval a X.env)] := by rfl) : PI X tg (.Call (.Name "range" p) [a] [] pos) (tI X.K CA W (rng1I sa)) := by
  refine piI (pi_range1 hg hm (pa_cons ha pa_nil hs) hs) fun σ H R ⟨A, H0, F, G, ρ, sr, h⟩ => ?_
  refine ⟨A, H0, F, G, ρ, sr, h.bind fun ⟨k, d⟩ h1 => ?_⟩
  intro v H1 f s1 r o
  cases d with
  | int j =>
    cases r
    obtain ⟨hz, h2⟩ := h1.ite
    exact ⟨j, rfl, rgOk_lo hz, rgOk_hi hz, h2 _ _ _ s1 iter_rng (fun p hp => nomatch hp)⟩
  | _ => exact h1.elim
theorem i_rng2 (hm : X.mg "range" = none) (ha : PE X a (tE X.K CA W sa)) (hb : PE X b (tE X.K CA W sb)) (hg : Gl X "range" := by rfl) (hs : starEach [a, b] X.env = [(false, eval a X.env), (false, eval b X.env)] := by rfl) (hs2 : starEach [b] X.env = [(false, eval b X.env)] := by rfl) :
    PI X tg (.Call (.Name "range" p) [a, b] [] pos) (tI X.K CA W (rng2I sa sb)) := by
  refine piI (pi_range2 hg hm (pa_cons ha (pa_cons hb pa_nil hs2) (by rw [hs, hs2])) hs hs2) fun σ H R ⟨A, H0, F, G, ρ, sr, h⟩ => ?_
  refine ⟨A, H0, F, G, ρ, sr, h.bind fun ⟨k, d⟩ h1 => ?_⟩
  intro v H1 f s1 r o
  refine ⟨A, H0, F, G, ρ, sr.same s1, (h1.later s1).bind fun ⟨k2, d2⟩ h2 => ?_⟩
  intro v2 H2 f2 s2 r2 o2
  cases d with
  | int i =>
    cases d2 with
    | int j =>
      cases r; cases r2
      obtain ⟨hz, h3⟩ := h2.ite
      have hz' := Bool.and_eq_true_iff.mp hz
      exact ⟨i, j, rfl, ⟨rgOk_lo hz'.1, rgOk_hi hz'.1, rgOk_lo hz'.2, rgOk_hi hz'.2⟩, h3 _ _ _ (s1.trans s2) iter_rng (fun p hp => nomatch hp)⟩
    | _ => exact h2.elim
  | _ => cases d2 <;> exact h2.elim
end
/-! ### comprehensions -/
def notOw (ρ : Env) (i : Nat) : Bool := decide (i < ρ.length) && match ρ[i]? with
  | some (.ow _) => false
  | _ => true
def wipE (ρ : Env) : List Nat → Env
  | [] => ρ
  | v :: vs => (wipE ρ vs).set v .no
def yesT : STs := fun _ => .ok true
def lcL (tg : Tgt) (ifs : STs) (elt : SE) (k : Kd) (ρ : Env) : List D → R (List KD)
  | [] => .ok []
  | d :: ds => match tg (.bor k.is) d ρ with
    | none => .st
    | some ρ1 => (ifs ρ1).bind fun b => if b = true then (elt ρ1).bind fun x => (lcL tg ifs elt k ρ ds).bind fun xs => .ok (x :: xs) else lcL tg ifs elt k ρ ds
def noex {α : Type} : R α → R α
  | .ok a => .ok a
  | _ => .st
def lcE (it : SI) (own : List Nat) (tg : Tgt) (ifs : STs) (elt : SE) : SE := fun ρ => (it ρ).bind fun kds =>
  if own.all (notOw ρ) = true ∧ kds.2.length ≤ LIM then (noex (lcL tg ifs elt kds.1 (wipE ρ own) kds.2)).bind fun xs => .ok (lk (jn xs) (xs.map (·.2)), .lst (xs.map (·.2))) else .st
section
variable {K : PySem.W.Frag} {A : Addr → Prop} {H0 H H1 : Hp} {F : Nat → List Addr} {G : List (D × V)} {ρ : Env} {σ : L2.St}
theorem Kd.join_assoc (a b c : Kd) : (a.join b).join c = a.join (b.join c) := by
  cases a <;> cases b <;> cases c <;> simp [Kd.join, Kd.is]
theorem jn_app : ∀ xs ys : List KD, jn (xs ++ ys) = (jn xs).join (jn ys)
  | [], ys => by
    show jn ys = Kd.join .own (jn ys)
    cases jn ys with
    | own => rfl
    | bor is => rfl
  | x :: xs, ys => by
    show (nk x.1 x.2).join (jn (xs ++ ys)) = ((nk x.1 x.2).join (jn xs)).join (jn ys)
    rw [jn_app xs ys, Kd.join_assoc]
theorem jn_one' (x : KD) : jn [x] = nk x.1 x.2 := Kd.join_own _
theorem Kd.join_is (a b : Kd) : (a.join b).is = a.is ++ b.is := by cases a <;> cases b <;> simp [Kd.join, Kd.is]
theorem jn_is : ∀ {xs : List KD} {x : KD}, x ∈ xs → ∀ j ∈ (nk x.1 x.2).is, j ∈ (jn xs).is
  | y :: xs, x, h, j, hj => by
    show j ∈ ((nk y.1 y.2).join (jn xs)).is
    rw [Kd.join_is]
    rcases List.mem_cons.mp h with e | h
    · subst e; exact List.mem_append_left _ hj
    · exact List.mem_append_right _ (jn_is h j hj)
theorem SR.setNo (sr : SR K A H0 F G ρ σ H) (i : Nat) (h : notOw ρ i = true) : SR K A H0 F G (ρ.set i .no) (σ.set i none) H := by
  have hl : i < ρ.length := of_decide_eq_true (Bool.and_eq_true_iff.mp h).1
  refine ⟨by rw [List.length_set, List.length_set]; exact sr.len, sr.fr, sr.own, sr.dis, fun j d e => ?_, fun j is d e => ?_, sr.gho, fun j hj hn => ?_, sr.fin⟩
  · by_cases h : i = j
    · subst h; rw [List.getElem?_set_self hl] at e; cases e
    · rw [List.getElem?_set_ne h] at e; rw [List.getElem?_set_ne h]; exact sr.slo j d e
  · by_cases h : i = j
    · subst h; rw [List.getElem?_set_self hl] at e; cases e
    · rw [List.getElem?_set_ne h] at e; rw [List.getElem?_set_ne h]; exact sr.slb j is d e
  · rw [List.length_set] at hj
    obtain ⟨d, e⟩ := sr.emp j hj hn
    by_cases h' : i = j
    · subst h'
      have := (Bool.and_eq_true_iff.mp h).2
      rw [e] at this
      cases this
    · exact ⟨d, by rw [List.getElem?_set_ne h']; exact e⟩
theorem notOw_set {ρ : Env} {i j : Nat} (h : notOw ρ i = true) : notOw (ρ.set j .no) i = true := by
  obtain ⟨h1, h2⟩ := Bool.and_eq_true_iff.mp h
  refine Bool.and_eq_true_iff.mpr ⟨by rw [List.length_set]; exact h1, ?_⟩
  by_cases e : j = i
  · subst e; rw [List.getElem?_set_self (of_decide_eq_true h1)]
  · rw [List.getElem?_set_ne e]; exact h2
theorem notOw_wip {ρ : Env} {i : Nat} (h : notOw ρ i = true) : ∀ vs : List Nat, notOw (wipE ρ vs) i = true
  | [] => h
  | v :: vs => notOw_set (notOw_wip h vs)
theorem SR.wip (sr : SR K A H0 F G ρ σ H) : ∀ own : List Nat, own.all (notOw ρ) = true → SR K A H0 F G (wipE ρ own) (wipe σ own) H
  | [], _ => sr
  | v :: vs, h => by
    rw [List.all_cons, Bool.and_eq_true] at h
    exact (sr.wip vs h.2).setNo v (notOw_wip h.1 vs)
theorem wipE_len (ρ : Env) : ∀ vs : List Nat, (wipE ρ vs).length = ρ.length
  | [] => rfl
  | v :: vs => by unfold wipE; rw [List.length_set, wipE_len ρ vs]
theorem wipE_in {ρ : Env} {i : Nat} : ∀ {vs : List Nat}, i ∈ vs → i < ρ.length → (wipE ρ vs)[i]? = some .no
  | v :: vs, h, hl => by
    unfold wipE
    by_cases e : v = i
    · subst e; rw [List.getElem?_set_self (by rw [wipE_len]; exact hl)]
    · rw [List.getElem?_set_ne e]
      rcases List.mem_cons.mp h with q | q
      · exact absurd q.symm e
      · exact wipE_in q hl
theorem wipe_in {σ : L2.St} {i : Nat} : ∀ {vs : List Nat}, i ∈ vs → i < σ.length → (wipe σ vs)[i]? = some none
  | v :: vs, h, hl => by
    unfold wipe
    by_cases e : v = i
    · subst e; rw [List.getElem?_set_self (by rw [wipe_length]; exact hl)]
    · rw [List.getElem?_set_ne e]
      rcases List.mem_cons.mp h with q | q
      · exact absurd q.symm e
      · exact wipe_in q hl
theorem wipe_eq {σ σ' : L2.St} {vs : List Nat} (hl : σ'.length = σ.length) (h : ∀ j, j ∉ vs → σ'[j]? = (wipe σ vs)[j]?) : wipe σ' vs = wipe σ vs := by
  refine List.ext_getElem? fun j => ?_
  by_cases hj : j ∈ vs
  · by_cases hjl : j < σ.length
    · rw [wipe_in hj hjl, wipe_in hj (by rw [hl]; exact hjl)]
    · rw [List.getElem?_eq_none (by rw [wipe_length]; omega), List.getElem?_eq_none (by rw [wipe_length]; omega)]
  · rw [wipe_out hj, h j hj]
/-- a hidden owner: beyond all slots -/
theorem SR.hid {L : Nat} {Dn : Addr} {xs : List V} (sr : SR K A H0 F G ρ σ H) (hD : H Dn = none) (hL : ρ.length ≤ L) (hF : F L = []) : SR K A H0 (updF F L [Dn]) G ρ σ (upd H Dn (.lst xs)) := by
  have s := same_upd (o := .lst xs) hD
  have sr1 := sr.same s
  have hn : ∀ b ∈ [Dn], H b = none := fun b hb => by rw [List.mem_singleton.mp hb]; exact hD
  have ne : ∀ {i : Nat} {x : Sl}, ρ[i]? = some x → i ≠ L := fun {i x} e => by
    have := (List.getElem?_eq_some_iff.mp e).1
    omega
  refine ⟨sr.len, sr1.fr, fun j => ?_, fun j m a hj hm => ?_, fun i d e => ?_, fun i is d e => ?_, fun p hp => ?_, fun i hi hn' => ?_, fin_upd sr.fin⟩
  · by_cases e : j = L
    · subst e; rw [updF_same]
      refine ⟨List.nodup_cons.mpr ⟨by simp, List.nodup_nil⟩, fun a ha => ?_⟩
      rw [List.mem_singleton.mp ha]
      exact ⟨sr.fr.free hD, ⟨by rw [upd_same]; trivial⟩⟩
    · rw [updF_ne e]; exact sr1.own j
  · by_cases e : j = L
    · by_cases e' : m = L
      · rw [e, e']
      · rw [e, updF_same] at hj; rw [updF_ne e'] at hm
        exact absurd (hn a hj) ((sr.own m).2 a hm).2.ne
    · by_cases e' : m = L
      · rw [e', updF_same] at hm; rw [updF_ne e] at hj
        exact absurd (hn a hm) ((sr.own j).2 a hj).2.ne
      · rw [updF_ne e] at hj; rw [updF_ne e'] at hm; exact sr.dis j m a hj hm
  · rw [updF_ne (ne e)]; exact sr1.slo i d e
  · obtain ⟨v, f, h1, h2, h3⟩ := sr.slb i is d e
    exact ⟨v, f, h1, h2.same s, h3.upd sr hn h2.trk⟩
  · obtain ⟨f, h1, h2⟩ := sr.gho p hp
    exact ⟨f, h1.same s, fun a ha => (h2 a ha).upd sr hn (h1.trk a ha)⟩
  · rw [updF_ne (by omega)] at hn'; exact sr.emp i hi hn'
/-- it is written -/
theorem SR.mutH {L : Nat} {Dn : Addr} {xs ys : List V} (sr : SR K A H0 F G ρ σ H) (hD : H Dn = some (.lst xs)) (hF : Dn ∈ F L) (hL : ρ.length ≤ L) (hi : ∀ (i : Nat) is d, ρ[i]? = some (.bo is d) → L ∉ is) : SR K A H0 F G ρ σ (upd H Dn (.lst ys)) := by
  have nt : ∀ b o, H b = some o → IsT o → (upd H Dn (.lst ys)) b = some o := fun b o e t => by
    by_cases h : b = Dn
    · subst h; rw [hD] at e; cases e; exact t.elim
    · rw [upd_ne h]; exact e
  have kp : ∀ {f : List Addr}, Dn ∉ f → ∀ a ∈ f, ∀ o, H a = some o → (upd H Dn (.lst ys)) a = some o := fun {f} hf a ha o e => by
    have hne : a ≠ Dn := fun z => hf (by rw [← z]; exact ha)
    rw [upd_ne hne]; exact e
  have shn : ∀ {a : Addr}, Sh A H0 F a → a ≠ Dn := fun {a} h z => h.2 L (z ▸ hF)
  refine ⟨sr.len, fun b o e => ?_, fun j => ⟨(sr.own j).1, fun a ha => ⟨((sr.own j).2 a ha).1, ?_⟩⟩, sr.dis, fun i d e => ?_, fun i is d e => ?_, fun p hp => ?_, sr.emp, sr.fin⟩
  · have hb : b ≠ Dn := fun z => by subst z; rw [((sr.own L).2 b hF).1] at e; cases e
    rw [upd_ne hb]; exact sr.fr b o e
  · by_cases h : a = Dn
    · subst h; exact ⟨by rw [upd_same]; trivial⟩
    · rw [upd_ne h]; exact ((sr.own j).2 a ha).2
  · obtain ⟨v, h1, h2⟩ := sr.slo i d e
    have hil := (List.getElem?_eq_some_iff.mp e).1
    exact ⟨v, h1, h2.frame nt (kp fun z => absurd (sr.dis i L Dn z hF) (by omega))⟩
  · obtain ⟨v, f, h1, h2, h3⟩ := sr.slb i is d e
    refine ⟨v, f, h1, h2.frame nt (kp fun z => ?_), h3⟩
    rcases h3 Dn z with ⟨j, hj, q⟩ | q
    · exact hi i is d e ((sr.dis j L Dn q hF) ▸ hj)
    · exact shn q rfl
  · obtain ⟨f, h1, h2⟩ := sr.gho p hp
    exact ⟨f, h1.frame nt (kp fun z => shn (h2 Dn z) rfl), h2⟩
end
theorem lk_not {k : Kd} {ds : List D} (h : ¬ noLs ds = true) : lk k ds = k := if_neg h
theorem slotsMax (ρ : Env) : ∃ L, ∀ (i : Nat) is d, ρ[i]? = some (.bo is d) → ∀ j ∈ is, j < L := by
  induction ρ with
  | nil => exact ⟨0, fun i is d e => by simp at e⟩
  | cons s ρ ih =>
    obtain ⟨L, h⟩ := ih
    have m : ∀ is : List Nat, ∃ M, ∀ j ∈ is, j < M := fun is => by
      induction is with
      | nil => exact ⟨0, fun j hj => nomatch hj⟩
      | cons a is ih =>
        obtain ⟨M, h⟩ := ih
        refine ⟨max M (a + 1), fun j hj => ?_⟩
        rcases List.mem_cons.mp hj with e | hj
        · subst e; omega
        · have := h j hj; omega
    cases s with
    | bo is d =>
      obtain ⟨M, hM⟩ := m is
      refine ⟨max L M, fun i is' d' e j hj => ?_⟩
      cases i with
      | zero => simp at e; obtain ⟨e1, _⟩ := e; subst e1; have := hM j hj; omega
      | succ i => have := h i is' d' (by simpa using e) j hj; omega
    | no => exact ⟨L, fun i is d e => by cases i with | zero => simp at e | succ i => exact h i is d (by simpa using e)⟩
    | ow d0 => exact ⟨L, fun i is d e => by cases i with | zero => simp at e | succ i => exact h i is d (by simpa using e)⟩
theorem natsMax (is : List Nat) : ∃ M, ∀ j ∈ is, j < M := by
  induction is with
  | nil => exact ⟨0, fun j hj => nomatch hj⟩
  | cons a is ih =>
    obtain ⟨M, h⟩ := ih
    refine ⟨max M (a + 1), fun j hj => ?_⟩
    rcases List.mem_cons.mp hj with e | hj
    · subst e; omega
    · have := h j hj; omega
end Cz
set_option maxHeartbeats 1000000
/-! Cz6b: list comprehensions. -/
namespace Cz
open PySem PySem.Spec PyProof.Rows L2
abbrev W0 : WX := fun _ _ _ _ => False
theorem ptsI {X : Cx} {ifs : List Expr} {t t' : TT} (h : PTs X ifs t) (k : ∀ σ H Q, t' σ H Q → t σ H Q) : PTs X ifs t' := ⟨fun pins s σ H Q I q => h.run pins s σ H Q I (k σ H Q q)⟩
theorem ts_nil {X : Cx} {CA : String → Addr} {W : WX} : PTs X [] (tT X.K CA W yesT) := ptsI pts_nil fun σ H Q ⟨A, H0, F, G, ρ, sr, h⟩ => h H (Same.refl H)
theorem ts_one {X : Cx} {CA : String → Addr} {W : WX} {c : Expr} {t : STs} (h : PT X c (tT X.K CA W t)) : PTs X [c] (tT X.K CA W t) := pts_one h
section
variable {K : PySem.W.Frag} {A : Addr → Prop} {H0 H : Hp} {F : Nat → List Addr} {G : List (D × V)} {ρ : Env} {σ : L2.St} {CA : String → Addr} {Q : VK}
/-- the loop of a comprehension -/
theorem lc_loop {J : It} {H1 : Hp} {gh : List (D × V)} {k : Kd} {ds : List D} {own sl : List Nat} {tg : Tgt} {ifs : STs} {elt : SE} {total : List KD} {Dn : Addr} (sr : SR K A H0 F G ρ σ H) (s1 : Same H H1) (it : IterOk K J ds gh)
    (gk : Gh K H1 (fun a => (∃ j ∈ k.is, a ∈ F j) ∨ Sh A H0 F a) gh) (hown : own.all (notOw ρ) = true) (hlen : ds.length ≤ LIM) (hsl : ∀ j ∈ sl, j ∈ own) (ht : lcL tg ifs elt k (wipE ρ own) ds = .ok total)
    (hq : Cont K A H0 F H (lk (jn total) (total.map (·.2)), .lst (total.map (·.2))) Q) (nD : H1 Dn = none) :
    ∃ W : Nat → Nat → Hp → Prop, (∃ m, W 0 m (upd H1 Dn (.lst []))) ∧ ∀ i m H, W i m H →
      (J.stop i H ∧ Q (.ref Dn) H) ∨ (J.go i H ∧ ∃ Nx : Hp → Prop, (∀ H', Nx H' → ∃ m', m' < m ∧ W (i + 1) m' H') ∧ ∀ x H', J.yld i H x H' → tG K sl tg x (wipe σ own) H' fun σ2 H2 => wipe σ2 own = wipe σ own ∧ tT K CA W0 ifs σ2 H2 fun b H3 =>
        if b = true then tE K CA W0 elt σ2 H3 fun y H4 => ∃ acc, H4 Dn = some (.lst acc) ∧ acc.length < sizeLine ∧ Nx (upd H4 Dn (.lst (acc ++ [y]))) else Nx H3) := by
  -- a hidden owner
  obtain ⟨L0, hL0⟩ := sr.fin
  obtain ⟨L1, hL1⟩ := slotsMax (wipE ρ own)
  obtain ⟨L2, hL2⟩ := natsMax (jn total).is
  obtain ⟨L3, hL3⟩ := natsMax k.is
  obtain ⟨L, hLe⟩ : ∃ L, L = max (max L0 L1) (max L2 (max L3 ρ.length)) := ⟨_, rfl⟩
  have hFL : F L = [] := hL0 L (by omega)
  have hLr : ρ.length ≤ L := by omega
  have hLt : L ∉ (jn total).is := fun z => by have := hL2 L z; omega
  have hLk : L ∉ k.is := fun z => by have := hL3 L z; omega
  have hLs : ∀ (i : Nat) is d, (wipE ρ own)[i]? = some (.bo is d) → L ∉ is := fun i is d e z => by have := hL1 i is d e L z; omega
  have srw := (sr.same s1).wip own hown
  have hLw : (wipE ρ own).length ≤ L := by rw [wipE_len]; exact hLr
  have sD := same_upd (o := .lst []) nD
  have srD : SR K A H0 (updF F L [Dn]) G (wipE ρ own) (wipe σ own) (upd H1 Dn (.lst [])) := srw.hid nD hLw hFL
  have hDn : ∀ b ∈ [Dn], H1 b = none := fun b hb => by rw [List.mem_singleton.mp hb]; exact nD
  have inD : Dn ∈ updF F L [Dn] L := by rw [updF_same]; simp
  -- nodes that are known in F and in the widened F
  have up : ∀ {is : List Nat} {g : List Addr}, (∀ a ∈ g, H1 a ≠ none) → BOk A H0 F is g → BOk A H0 (updF F L [Dn]) is g := fun {is g} h b => b.upd srw hDn h
  have down : ∀ {is : List Nat} {g : List Addr}, L ∉ is → BOk A H0 (updF F L [Dn]) is g → BOk A H0 F is g := fun {is g} h b a ha => by
    rcases b a ha with ⟨j, hj, q⟩ | q
    · have hjL : j ≠ L := fun z => h (z ▸ hj)
      rw [updF_ne hjL] at q
      exact .inl ⟨j, hj, q⟩
    · refine .inr ⟨q.1, fun j hj => q.2 j ?_⟩
      by_cases e : j = L
      · subst e; rw [hFL] at hj; cases hj
      · rw [updF_ne e]; exact hj
  have notD : ∀ {kk : Kd} {g : List Addr} {Ha Hb : Hp}, (∀ j ∈ kk.is, j ∈ (jn total).is) → Ha Dn ≠ none → KOk A H0 (updF F L [Dn]) Ha Hb kk g → Dn ∉ g := fun {kk g Ha Hb} hk hD o z => by
    cases kk with
    | own => exact hD (o.2 Dn z).1
    | bor is =>
      rcases o Dn z with ⟨j, hj, q⟩ | q
      · have : j = L := srD.dis j L Dn q inD
        subst this
        exact hLt (hk j hj)
      · exact q.2 L inD
  have ownF : ∀ j ∈ own, F j = [] := fun j hj => by
    have h1 := List.all_eq_true.mp hown j hj
    have hl : j < ρ.length := of_decide_eq_true (Bool.and_eq_true_iff.mp h1).1
    cases hF : F j with
    | nil => rfl
    | cons a as =>
      obtain ⟨d, e⟩ := sr.emp j hl (by rw [hF]; exact fun z => nomatch z)
      have h2 := (Bool.and_eq_true_iff.mp h1).2
      rw [e] at h2
      cases h2
  have ownL : ∀ j ∈ own, j ≠ L := fun j hj z => by
    have h1 := List.all_eq_true.mp hown j hj
    have hl : j < ρ.length := of_decide_eq_true (Bool.and_eq_true_iff.mp h1).1
    omega
  have w : Walk J ds.length (fun H2 => Gh K H2 (fun a => ((∃ j ∈ k.is, a ∈ F j) ∨ Sh A H0 F a) ∧ H1 a ≠ none) gh) (fun i H2 x H' => Same H2 H' ∧ ∃ d f, ds[i]? = some d ∧ Rep K H' d x f ∧ ∀ a ∈ f, ((∃ j ∈ k.is, a ∈ F j) ∨ Sh A H0 F a) ∧ H1 a ≠ none) :=
    ⟨fun i H2 hi g => it.go H2 _ i hi g, fun H2 g => it.stop H2 _ g, fun i H2 x H' hi g y => it.yld H2 _ i x H' hi g y⟩
  have gk' : Gh K H1 (fun a => ((∃ j ∈ k.is, a ∈ F j) ∨ Sh A H0 F a) ∧ H1 a ≠ none) gh := fun p hp => let ⟨f, h1, h2⟩ := gk p hp; ⟨f, h1, fun a ha => ⟨h2 a ha, h1.trk a ha⟩⟩
  refine lc_it w (fun i H2 => ∃ xs rest vs f, lcL tg ifs elt k (wipE ρ own) (ds.drop i) = .ok rest ∧ xs ++ rest = total ∧ H2 Dn = some (.lst vs) ∧ Reps K H2 (xs.map (·.2)) vs f ∧ Dn ∉ f ∧ KOk A H0 (updF F L [Dn]) (upd H1 Dn (.lst [])) H2 (jn xs) f ∧ Same H1 H2 ∧
      SR K A H0 (updF F L [Dn]) G (wipE ρ own) (wipe σ own) H2 ∧ vs.length ≤ i)
    ⟨[], total, [], [], ht, rfl, upd_same, .nil, by simp, KOk.nil _, sD, srD, Nat.le_refl _⟩ (fun i H2 _ ⟨xs, rest, vs, f, _, _, _, _, _, _, sm, _, _⟩ => gk'.same sm) ?_ ?_
  · rintro i x H2 H' hi ⟨xs, rest, vs, f, hl, hx, hD, hr, hDf, hk, sm, srI, hv⟩ ⟨sy, d, f0, hd, r0, b0⟩
    have hdrop : ds.drop i = d :: ds.drop (i + 1) := by
      rw [List.drop_eq_getElem_cons hi]
      congr 1
      rw [List.getElem?_eq_getElem hi] at hd
      exact Option.some.inj hd
    rw [hdrop] at hl
    have hl : (match tg (.bor k.is) d (wipE ρ own) with
      | none => .st
      | some ρ1 => (ifs ρ1).bind fun b => if b = true then (elt ρ1).bind fun x => (lcL tg ifs elt k (wipE ρ own) (ds.drop (i + 1))).bind fun xs => .ok (x :: xs) else lcL tg ifs elt k (wipE ρ own) (ds.drop (i + 1))) = R.ok rest := hl
    have b0' : BOk A H0 (updF F L [Dn]) k.is f0 := up (fun a ha => (b0 a ha).2) fun a ha => (b0 a ha).1
    refine ⟨A, H0, H', updF F L [Dn], G, wipE ρ own, .bor k.is, d, f0, srI.same sy, Same.refl _, r0, b0', ?_⟩
    cases h1 : tg (.bor k.is) d (wipE ρ own) with
    | none => rw [h1] at hl; cases hl
    | some ρ1 =>
      rw [h1] at hl
      intro σ' F' p
      have hF' : F' = updF F L [Dn] := by
        funext j
        by_cases hj : j ∈ sl
        · rw [p.bor rfl j hj, updF_ne (ownL j (hsl j hj)), ownF j (hsl j hj)]
        · exact (p.out j hj).2
      subst hF'
      refine ⟨wipe_eq (by rw [p.len, wipe_length]) (fun j hj => (p.out j fun z => hj (hsl j z)).1), A, H0, _, G, ρ1, p.sr, ?_⟩
      cases h2 : ifs ρ1 with
      | ex c => simp only [h2, R.bind] at hl; cases hl
      | st => simp only [h2, R.bind] at hl; cases hl
      | ok b =>
        simp only [h2, R.bind] at hl
        intro H3 s3
        have sm3 := (sm.trans sy).trans s3
        cases b with
        | false =>
          simp only [Bool.false_eq_true, if_false] at hl ⊢
          exact ⟨xs, rest, vs, f, hl, hx, s3 _ _ (sy _ _ hD), (hr.same sy).same s3, hDf, hk.wide (Same.refl _) (sy.trans s3), sm3, (srI.same sy).same s3, by omega⟩
        | true =>
          simp only [if_true] at hl ⊢
          refine ⟨A, H0, _, G, ρ1, p.sr.same s3, ?_⟩
          cases h3 : elt ρ1 with
          | ex c => simp only [h3] at hl; cases hl
          | st => simp only [h3] at hl; cases hl
          | ok y =>
            simp only [h3] at hl
            cases h4 : lcL tg ifs elt k (wipE ρ own) (ds.drop (i + 1)) with
            | ex c => simp only [h4] at hl; cases hl
            | st => simp only [h4] at hl; cases hl
            | ok rest' =>
              simp only [h4] at hl
              cases hl
              intro yv H4 f4 s4 r4 o4
              have o4 := KOk.nk r4 o4
              have hD3 : H3 Dn = some (.lst vs) := s3 _ _ (sy _ _ hD)
              have hD4 : H4 Dn = some (.lst vs) := s4 _ _ hD3
              have hyt : y ∈ total := by rw [← hx]; simp
              have n4 : Dn ∉ f4 := notD (fun j hj => jn_is hyt j hj) (by rw [hD3]; simp) o4
              have nt : ∀ b o, H4 b = some o → IsT o → (upd H4 Dn (.lst (vs ++ [yv]))) b = some o := fun b o e t => by
                by_cases h : b = Dn
                · subst h; rw [hD4] at e; cases e; exact t.elim
                · rw [upd_ne h]; exact e
              have kp : ∀ {f : List Addr}, Dn ∉ f → ∀ a ∈ f, ∀ o, H4 a = some o → (upd H4 Dn (.lst (vs ++ [yv]))) a = some o := fun {f} hf a ha o e => by
                have hne : a ≠ Dn := fun z => hf (by rw [← z]; exact ha)
                rw [upd_ne hne]; exact e
              have mu : ∀ {a : Addr}, Mu (H4 a) → Mu ((upd H4 Dn (.lst (vs ++ [yv]))) a) := fun {a} h => by
                by_cases e : a = Dn
                · subst e; exact ⟨by rw [upd_same]; trivial⟩
                · rw [upd_ne e]; exact h
              have hr4 := ((hr.same sy).same s3).same s4
              have sr4 := (((srI.same sy).same s3).same s4)
              have hk4 := hk.wide (Same.refl _) ((sy.trans s3).trans s4)
              have trD : ∀ {a : Addr}, H3 a = none → (upd H1 Dn (.lst [])) a = none := fun {a} h => by
                have hne : a ≠ Dn := fun z => by rw [z, hD3] at h; cases h
                rw [upd_ne hne]
                exact sm3.free h
              refine ⟨vs, hD4, by rw [← lim_eq]; omega, xs ++ [y], rest', vs ++ [yv], f ++ f4, rfl, by rw [List.append_assoc]; exact hx, upd_same, ?_, ?_, ?_, ?_, ?_, ?_⟩
              · rw [List.map_append]
                have one : Reps K (upd H4 Dn (.lst (vs ++ [yv]))) [y.2] [yv] f4 := by
                  have := Reps.cons (r4.frame nt (kp n4)) (Reps.nil (K := K) (H := upd H4 Dn (.lst (vs ++ [yv]))))
                  rw [List.append_nil] at this
                  exact this
                exact (hr4.frame nt (kp hDf)).app one
              · intro z
                rcases List.mem_append.mp z with z | z
                · exact hDf z
                · exact n4 z
              · rw [jn_app, jn_one']
                have bb : BOk A H0 (updF F L [Dn]) ((jn xs).is ++ (nk y.1 y.2).is) (f ++ f4) := fun a ha => by
                  rcases List.mem_append.mp ha with ha | ha
                  · exact (hk.bok srD).mono (fun j hj => List.mem_append_left _ hj) (fun _ q => q) a ha
                  · exact (o4.bok ((srI.same sy).same s3)).mono (fun j hj => List.mem_append_right _ hj) (fun _ q => q) a ha
                cases hj : jn xs with
                | own =>
                  rw [hj] at hk4
                  cases hy : nk y.1 y.2 with
                  | own =>
                    rw [hy] at o4
                    refine ⟨List.nodup_append.mpr ⟨hk4.1, o4.1, fun a ha b hb e => ?_⟩, fun a ha => ?_⟩
                    · subst e
                      exact ((hr.same sy).same s3).trk a ha (o4.2 a hb).1
                    · rcases List.mem_append.mp ha with ha | ha
                      · exact ⟨(hk4.2 a ha).1, mu (hk4.2 a ha).2⟩
                      · exact ⟨trD (o4.2 a ha).1, mu (o4.2 a ha).2⟩
                  | bor js => rw [hj, hy] at bb; exact bb
                | bor js => rw [hj] at bb; exact bb
              · intro b o e
                have hb : b ≠ Dn := fun z => by subst z; rw [nD] at e; cases e
                rw [upd_ne hb]
                exact s4 _ _ (sm3 b o e)
              · exact sr4.mutH hD4 inD hLw hLs
              · rw [List.length_append]; simp; omega
  · rintro H2 ⟨xs, rest, vs, f, hl, hx, hD, hr, hDf, hk, sm, srI, hv⟩
    rw [List.drop_length] at hl
    cases hl
    rw [List.append_nil] at hx
    subst hx
    refine hq _ H2 (Dn :: f) (s1.trans sm) (.lst hD hr) ?_
    have nH : H Dn = none := s1.free nD
    unfold lk
    split
    · rename_i hz
      rw [Reps.noL hr hz]
      refine ⟨List.nodup_cons.mpr ⟨by simp, List.nodup_nil⟩, fun a ha => ?_⟩
      rw [List.mem_singleton.mp ha]
      exact ⟨nH, ⟨by rw [hD]; trivial⟩⟩
    · cases hj : jn xs with
      | own =>
        rw [hj] at hk
        refine ⟨List.nodup_cons.mpr ⟨hDf, hk.1⟩, fun a ha => ?_⟩
        rcases List.mem_cons.mp ha with e | ha
        · subst e; exact ⟨nH, ⟨by rw [hD]; trivial⟩⟩
        · refine ⟨s1.free (sD.free (hk.2 a ha).1), (hk.2 a ha).2⟩
      | bor js =>
        rw [hj] at hk
        have hLj : L ∉ js := by have := hLt; rw [hj] at this; exact this
        intro a ha
        rcases List.mem_cons.mp ha with e | ha
        · subst e
          exact .inr ⟨.inr (sr.fr.free nH), fun j hj' => ((sr.own j).2 a hj').2.ne nH⟩
        · exact down hLj hk a ha
end
section
variable {X : Cx} {CA : String → Addr} {W : WX}
theorem e_lc {elt tg iter : Expr} {ifs : List Expr} {scope : Scope} {pos : Pos} {si : SI} {t : Tgt} {st : STs} {se : SE} {sl : List Nat} (own : List (Str × Nat)) (hc : X.calm = true) (hN : X.N.Nodup) (hi : PI X tg iter (tI X.K CA W si)) (ok : BlkOk X.N X.env.scope scope own)
    (hg : ∀ (s : Shared) (H : Hp) (C : Addr) (cl : List (Str × Addr)) (fp : List Addr), PG (X.blk s H scope (compEnvC scope cl C X.env) fp) tg (tG X.K sl t)) (hsl : ∀ j ∈ sl, j ∈ own.map (·.2))
    (ht : ∀ (s : Shared) (H : Hp) (C : Addr) (cl : List (Str × Addr)) (fp : List Addr), PTs (X.blk s H scope (compEnvC scope cl C X.env) fp) ifs (tT X.K CA W0 st))
    (he : ∀ (s : Shared) (H : Hp) (C : Addr) (cl : List (Str × Addr)) (fp : List Addr), PE (X.blk s H scope (compEnvC scope cl C X.env) fp) elt (tE X.K CA W0 se)) (hs : ∀ x, foldedSetIterable iter X.env x = pure x := by intro _; rfl) :
    PE X (.ListComp elt [⟨tg, iter, ifs, 0⟩] scope pos) (tE X.K CA W (lcE si (own.map (·.2)) t st se)) := by
  refine peI (pe_lc hc hN hi ok hg ht he hs) fun σ H Q ⟨A, H0, F, G, ρ, sr, h⟩ => ?_
  refine ⟨A, H0, F, G, ρ, sr, h.bind fun ⟨k, ds⟩ h1 => ?_⟩
  intro J H1 gh s1 it gk Dn nD
  obtain ⟨⟨hown, hlen⟩, h2⟩ := h1.ite
  cases hl : lcL t st se k (wipE ρ (own.map (·.2))) ds with
  | st => simp only [hl, noex, R.bind] at h2; exact h2.elim
  | ex c => simp only [hl, noex, R.bind] at h2; exact h2.elim
  | ok total =>
    simp only [hl, noex, R.bind] at h2
    exact lc_loop sr s1 it gk hown hlen hsl hl h2 nD
/-- y = [..] on one line -/
theorem e_setlc_raw {i : Nat} {y : Str} {py : Pos} {elt tg iter : Expr} {ifs : List Expr} {scope : Scope} {pos spos : Pos} {si : SI} {t : Tgt} {st : STs} {se : SE} {sl : List Nat} (own : List (Str × Nat)) (hc : X.calm = true) (hN : X.N.Nodup) (hy : X.N[i]? = some y) (hyl : X.env.scope.names.lookup y = some .local)
    (hsw : swapsWith (.ListComp elt [⟨tg, iter, ifs, 0⟩] scope pos) (some (.Name y py)) spos.line X.env = pure true) (hi : PI X tg iter (tI X.K CA W si)) (ok : BlkOk X.N X.env.scope scope own)
    (hg : ∀ (s : Shared) (H : Hp) (C : Addr) (cl : List (Str × Addr)) (fp : List Addr), PG (X.blk s H scope (compEnvC scope cl C X.env) fp) tg (tG X.K sl t)) (hsl : ∀ j ∈ sl, j ∈ own.map (·.2))
    (ht : ∀ (s : Shared) (H : Hp) (C : Addr) (cl : List (Str × Addr)) (fp : List Addr), PTs (X.blk s H scope (compEnvC scope cl C X.env) fp) ifs (tT X.K CA W0 st))
    (he : ∀ (s : Shared) (H : Hp) (C : Addr) (cl : List (Str × Addr)) (fp : List Addr), PE (X.blk s H scope (compEnvC scope cl C X.env) fp) elt (tE X.K CA W0 se)) (hs : ∀ x, foldedSetIterable iter X.env x = pure x := by intro _; rfl) :
    PS X (.Assign [.Name y py] (.ListComp elt [⟨tg, iter, ifs, 0⟩] scope pos) spos) (tAsg (tE X.K CA W (lcE si (own.map (·.2)) t st se)) (gName i)) := by
  refine ⟨fun pins s σ H D I h => (ps_setLc hc hN hy hyl hsw hi ok hg ht he hs).run pins s σ H D I ?_⟩
  obtain ⟨A, H0, F, G, ρ, sr, h⟩ := h
  refine ⟨A, H0, F, G, ρ, sr, h.bind fun ⟨k, ds⟩ h1 => ?_⟩
  intro J H1 gh s1 it gk Dn nD
  obtain ⟨⟨hown, hlen⟩, h2⟩ := h1.ite
  cases hl : lcL t st se k (wipE ρ (own.map (·.2))) ds with
  | st => simp only [hl, noex, R.bind] at h2; exact h2.elim
  | ex c => simp only [hl, noex, R.bind] at h2; exact h2.elim
  | ok total =>
    simp only [hl, noex, R.bind] at h2
    exact lc_loop (Q := fun x H1 => gName i x σ H1 D.nx) sr s1 it gk hown hlen hsl hl h2 nD
end
end Cz
set_option maxHeartbeats 1000000
/-! Cz7: statements. -/
namespace Cz
open PySem PySem.Spec PyProof.Rows L2
def OutOk (K : PySem.W.Frag) (CA : String → Addr) (W : WX) (A : Addr → Prop) (H0 : Hp) (G : List (D × V)) (De : Ends) (o : Out) : Prop := match o with
  | .nx ρ => ∀ σ H F, SR K A H0 F G ρ σ H → De.nx σ H
  | .rt k d => ∀ v H f, Same H0 H → Rep K H d v f → RetK A H0 H k f → De.rt v H
  | .bk ρ => ∀ σ H F, SR K A H0 F G ρ σ H → De.bk σ H
  | .ct ρ => ∀ σ H F, SR K A H0 F G ρ σ H → De.ct σ H
  | .ex c ρ => ∀ σ H F, SR K A H0 F G ρ σ H → WxOk K CA c (fun cls od => W cls od σ) H
  | .st => False
  | .ri ρ k d => ∀ v σ Hx H F f, SR K A H0 F G ρ σ Hx → Same Hx H → Rep K H d v f → KOk A H0 F Hx H k f → De.rt v H
def tS (K : PySem.W.Frag) (CA : String → Addr) (W : WX) (s : SS) : TS := fun De σ H => ∃ A H0 F G ρ, SR K A H0 F G ρ σ H ∧ OutOk K CA W A H0 G De (s ρ)
def R.out {α : Type} (r : R α) (ρ : Env) (f : α → Out) : Out := match r with
  | .ok a => f a
  | .ex c => .ex c ρ
  | .st => .st
@[simp] theorem R.out_ok {α : Type} (a : α) (ρ : Env) (f : α → Out) : (R.ok a).out ρ f = f a := rfl
@[simp] theorem R.out_ex {α : Type} (c : Ec) (ρ : Env) (f : α → Out) : (R.ex c : R α).out ρ f = .ex c ρ := rfl
@[simp] theorem R.out_st {α : Type} (ρ : Env) (f : α → Out) : (R.st : R α).out ρ f = .st := rfl
def nilS : SS := fun ρ => .nx ρ
def seqS (a b : SS) : SS := fun ρ => match a ρ with
  | .nx ρ' => b ρ'
  | o => o
def bkS : SS := fun ρ => .bk ρ
def ctS : SS := fun ρ => .ct ρ
def asgS (t : Tgt) (s : SE) : SS := fun ρ => (s ρ).out ρ fun x => match t x.1 x.2 ρ with
  | some ρ' => .nx ρ'
  | none => .st
def ifS (t : STs) (a b : SS) : SS := fun ρ => (t ρ).out ρ fun c => if c = true then a ρ else b ρ
def retS (s : SE) : SS := fun ρ => (s ρ).out ρ fun x => .rt x.1 x.2
def retV (i : Nat) : SS := fun ρ => match ρ[i]? with
  | some (.ow d) => .rt .own d
  | some (.bo is d) => .rt (.bor is) d
  | _ => .st
def retN : SS := fun _ => .rt .own .non
def raiS (c : String) : SS := fun ρ => .ex c ρ
def dropS (s : SE) : SS := fun ρ => (s ρ).out ρ fun _ => .nx ρ
/-- slots that borrow from slot i are forgotten -/
def inv (i : Nat) (ρ : Env) : Env := ρ.map fun s => match s with
  | .bo is d => if i ∈ is then .no else .bo is d
  | s => s
def frz1 (j : Nat) (ρ : Env) : Env := match ρ[j]? with
  | some (.ow d) => ρ.set j (.bo [] d)
  | _ => ρ
def frz : List Nat → Env → Env
  | [], ρ => ρ
  | j :: is, ρ => frz is (frz1 j ρ)
def loopS (tg : Tgt) (body : SS) : List D → Env → Out
  | [], ρ => .nx ρ
  | d :: ds, ρ => match tg (.bor []) d ρ with
    | none => .st
    | some ρ1 => match body ρ1 with
      | .nx ρ2 => loopS tg body ds ρ2
      | .ct ρ2 => loopS tg body ds ρ2
      | .bk ρ2 => .nx ρ2
      | o => o
def forS (it : SI) (tg : Tgt) (body : SS) : SS := fun ρ => (it ρ).out ρ fun kds => loopS tg body kds.2 (frz kds.1.is ρ)
section
variable {K : PySem.W.Frag} {A : Addr → Prop} {H0 H H1 : Hp} {F : Nat → List Addr} {G G' : List (D × V)} {ρ : Env} {σ : L2.St} {CA : String → Addr} {W : WX} {De : Ends}
theorem lift {α : Type} {r : R α} {f : α → Out} (h : OutOk K CA W A H0 G De (r.out ρ f)) (sr : SR K A H0 F G ρ σ H) : Post K CA W σ H r fun a => OutOk K CA W A H0 G De (f a) := by
  cases r with
  | ok a => exact h
  | ex c => exact fun H' s => h σ H' F (sr.same s)
  | st => exact h.elim
theorem KOk.ret {k : Kd} {f : List Addr} (sr : SR K A H0 F G ρ σ H) (o : KOk A H0 F H H1 k f) : RetK A H0 H1 k f := by
  cases k with
  | own => exact ⟨o.1, fun a ha => ⟨sr.fr.free (o.2 a ha).1, (o.2 a ha).2⟩⟩
  | bor is =>
    intro a ha
    rcases o a ha with ⟨j, _, q⟩ | q
    · exact .inr ((sr.own j).2 a q).1
    · exact q.1
/-- the nodes of slot j become shared -/
theorem SR.drop {j : Nat} {ρ' : Env} (sr : SR K A H0 F G ρ σ H) (hl : ρ'.length = ρ.length) (ho : ∀ i, i ≠ j → ρ'[i]? = ρ[i]?) (hj : (ρ'[j]? = ρ[j]? ∧ ∀ d, ρ[j]? ≠ some (.ow d)) ∨ ∃ d, ρ[j]? = some (.ow d) ∧ ρ'[j]? = some (.bo [] d)) :
    SR K A H0 (updF F j []) G ρ' σ H := by
  have hn : ∀ b ∈ ([] : List Addr), H b = none := fun b hb => nomatch hb
  have ne : ∀ {i : Nat} {d}, ρ'[i]? = some (.ow d) → i ≠ j := fun {i d} e z => by
    subst z
    rcases hj with ⟨h1, h2⟩ | ⟨d', h1, h2⟩
    · exact h2 d (h1 ▸ e)
    · rw [h2] at e; cases e
  refine ⟨hl.trans sr.len, sr.fr, fun i => ?_, fun i m a hi hm => ?_, fun i d e => ?_, fun i is d e => ?_, fun p hp => ?_, fun i hi hn' => ?_, fin_upd sr.fin⟩
  · by_cases e : i = j
    · subst e; rw [updF_same]; exact ⟨List.nodup_nil, fun a ha => nomatch ha⟩
    · rw [updF_ne e]; exact sr.own i
  · by_cases e : i = j
    · rw [e, updF_same] at hi; cases hi
    · by_cases e' : m = j
      · rw [e', updF_same] at hm; cases hm
      · rw [updF_ne e] at hi; rw [updF_ne e'] at hm; exact sr.dis i m a hi hm
  · have hi := ne e
    rw [updF_ne hi]
    exact sr.slo i d (by rw [← ho i hi]; exact e)
  · by_cases hi : i = j
    · subst hi
      rcases hj with ⟨h1, h2⟩ | ⟨d', h1, h2⟩
      · obtain ⟨v, f, h3, h4, h5⟩ := sr.slb i is d (h1 ▸ e)
        exact ⟨v, f, h3, h4, h5.upd sr hn h4.trk⟩
      · rw [h2] at e
        cases e
        obtain ⟨v, h3, h4⟩ := sr.slo i d h1
        refine ⟨v, F i, h3, h4, fun a ha => .inr ⟨.inr ((sr.own i).2 a ha).1, fun m hm => ?_⟩⟩
        by_cases e : m = i
        · rw [e, updF_same] at hm; cases hm
        · rw [updF_ne e] at hm; exact e (sr.dis m i a hm ha)
    · obtain ⟨v, f, h3, h4, h5⟩ := sr.slb i is d (by rw [← ho i hi]; exact e)
      exact ⟨v, f, h3, h4, h5.upd sr hn h4.trk⟩
  · obtain ⟨f, h1, h2⟩ := sr.gho p hp
    exact ⟨f, h1, fun a ha => (h2 a ha).upd sr hn (h1.trk a ha)⟩
  · by_cases e : i = j
    · subst e; rw [updF_same] at hn'; exact absurd rfl hn'
    · rw [updF_ne e] at hn'
      obtain ⟨d, q⟩ := sr.emp i (by rw [← hl]; exact hi) hn'
      exact ⟨d, by rw [ho i e]; exact q⟩
theorem frz1_len (j : Nat) (ρ : Env) : (frz1 j ρ).length = ρ.length := by
  unfold frz1
  split
  · rw [List.length_set]
  · rfl
theorem SR.frz1 (sr : SR K A H0 F G ρ σ H) (j : Nat) : SR K A H0 (updF F j []) G (Cz.frz1 j ρ) σ H := by
  refine sr.drop (frz1_len j ρ) (fun i hi => ?_) ?_
  · unfold Cz.frz1
    split
    · rw [List.getElem?_set_ne (Ne.symm hi)]
    · rfl
  · unfold Cz.frz1
    split
    · rename_i d h
      refine .inr ⟨d, h, ?_⟩
      rw [List.getElem?_set_self (List.getElem?_eq_some_iff.mp h).1]
    · rename_i h
      exact .inl ⟨rfl, fun d e => h d e⟩
/-- .. of many slots; what was known of nodes that lie in these or are shared: they are shared -/
theorem SR.frz : ∀ (is : List Nat) {F : Nat → List Addr} {ρ : Env}, SR K A H0 F G ρ σ H → ∃ F', SR K A H0 F' G (Cz.frz is ρ) σ H ∧ (∀ a, H a ≠ none → Sh A H0 F a → Sh A H0 F' a) ∧ ∀ a, (∃ j ∈ is, a ∈ F j) → Sh A H0 F' a
  | [], F, ρ, sr => ⟨F, sr, fun _ _ h => h, fun a ⟨j, hj, _⟩ => nomatch hj⟩
  | j :: is, F, ρ, sr => by
    have hn : ∀ b ∈ ([] : List Addr), H b = none := fun b hb => nomatch hb
    obtain ⟨F', sr', h1, h2⟩ := SR.frz is (sr.frz1 j)
    refine ⟨F', sr', fun a ha h => h1 a ha (h.upd sr hn ha), fun a ⟨m, hm, q⟩ => ?_⟩
    have ha : H a ≠ none := ((sr.own m).2 a q).2.ne
    by_cases e : m = j
    · subst e
      refine h1 a ha ⟨.inr ((sr.own m).2 a q).1, fun n hn' => ?_⟩
      by_cases e : n = m
      · rw [e, updF_same] at hn'; cases hn'
      · rw [updF_ne e] at hn'; exact e (sr.dis n m a hn' q)
    · rcases List.mem_cons.mp hm with z | hm
      · exact absurd z e
      · exact h2 a ⟨m, hm, by rw [updF_ne e]; exact q⟩
theorem SR.gsub (sr : SR K A H0 F G ρ σ H) (h : ∀ p ∈ G', p ∈ G) : SR K A H0 F G' ρ σ H := { sr with gho := fun p hp => sr.gho p (h p hp) }
theorem SR.gadd (sr : SR K A H0 F G ρ σ H) (h : Gh K H (Sh A H0 F) G') : SR K A H0 F (G' ++ G) ρ σ H :=
  { sr with gho := fun p hp => (List.mem_append.mp hp).elim (fun q => h p q) fun q => sr.gho p q }
theorem OutOk.gsub {o : Out} (h : OutOk K CA W A H0 G De o) (hs : ∀ p ∈ G, p ∈ G') : OutOk K CA W A H0 G' De o := by
  cases o with
  | nx ρ => exact fun σ H F sr => h σ H F (sr.gsub hs)
  | rt k d => exact h
  | bk ρ => exact fun σ H F sr => h σ H F (sr.gsub hs)
  | ct ρ => exact fun σ H F sr => h σ H F (sr.gsub hs)
  | ex c ρ => exact fun σ H F sr => h σ H F (sr.gsub hs)
  | st => exact h
  | ri ρ k d => exact fun v σ Hx H F f sr s r o => h v σ Hx H F f (sr.gsub hs) s r o
end
section
variable {X : Cx} {st : Stmt} {sts : List Stmt} {t t' : TS}
theorem psI (h : PS X st t) (k : ∀ D σ H, t' D σ H → t D σ H) : PS X st t' := ⟨fun pins s σ H D I q => h.run pins s σ H D I (k D σ H q)⟩
theorem pssI (h : PSs X sts t) (k : ∀ D σ H, t' D σ H → t D σ H) : PSs X sts t' := ⟨fun pins s σ H D I q => h.run pins s σ H D I (k D σ H q)⟩
end
section
variable {X : Cx} {CA : String → Addr} {W : WX} {pos pos' : Pos} {st : Stmt} {rest a b : List Stmt} {e c tg iter : Expr} {s u : SS} {se : SE} {t : STs} {tt : Tgt} {sl : List Nat} {si : SI}
theorem ss_nil : PSs X [] (tS X.K CA W nilS) := pssI pss_nil fun D σ H ⟨A, H0, F, G, ρ, sr, h⟩ => h σ H F sr
theorem ss_cons (h1 : PS X st (tS X.K CA W s)) (h2 : PSs X rest (tS X.K CA W u)) : PSs X (st :: rest) (tS X.K CA W (seqS s u)) := by
  refine pssI (pss_cons h1 h2) fun D σ H ⟨A, H0, F, G, ρ, sr, h⟩ => ?_
  refine ⟨A, H0, F, G, ρ, sr, ?_⟩
  have h : OutOk X.K CA W A H0 G D (match s ρ with | .nx ρ' => u ρ' | o => o) := h
  cases hs : s ρ with
  | nx ρ' => rw [hs] at h; exact fun σ' H' F' sr' => ⟨A, H0, F', G, ρ', sr', h⟩
  | rt k d => rw [hs] at h; exact h
  | bk ρ' => rw [hs] at h; exact h
  | ct ρ' => rw [hs] at h; exact h
  | ex c ρ' => rw [hs] at h; exact h
  | st => rw [hs] at h; exact h
  | ri ρ' k d => rw [hs] at h; exact h
theorem ss_one (h1 : PS X st (tS X.K CA W s)) : PSs X [st] (tS X.K CA W s) := pss_one h1
theorem s_pass : PS X (.Pass pos) (tS X.K CA W nilS) := psI ps_pass fun D σ H ⟨A, H0, F, G, ρ, sr, h⟩ => h σ H F sr
theorem s_break : PS X (.Break pos) (tS X.K CA W bkS) := psI ps_break fun D σ H ⟨A, H0, F, G, ρ, sr, h⟩ => h σ H F sr
theorem s_cont : PS X (.Continue pos) (tS X.K CA W ctS) := psI ps_continue fun D σ H ⟨A, H0, F, G, ρ, sr, h⟩ => h σ H F sr
theorem s_ret (he : PE X e (tE X.K CA W se)) : PS X (.Return (some e) pos) (tS X.K CA W (retS se)) := by
  refine psI (ps_ret he) fun D σ H ⟨A, H0, F, G, ρ, sr, h⟩ => ?_
  refine ⟨A, H0, F, G, ρ, sr, (lift h sr).imp fun ⟨k, d⟩ _ q v H' f s r o => q v H' f (sr.fr.trans s) r (o.ret sr)⟩
theorem s_retV (i : Nat) {x : Str} (hN : X.N[i]? = some x := by rfl) (hv : Vis X.env.scope x := by first | exact Or.inl rfl | exact Or.inr (Or.inl rfl) | exact Or.inr (Or.inr rfl)) (hd : (x == ("__debug__" : Str)) = false := by decide)
    (hcd : (x == ("__classdict__" : Str)) = false := by decide) : PS X (.Return (some (.Name x pos')) pos) (tS X.K CA W (retV i)) := by
  refine psI (ps_ret (pe_var hN hv hd hcd)) fun D σ H ⟨A, H0, F, G, ρ, sr, h⟩ => ?_
  unfold retV at h
  cases e : ρ[i]? with
  | none => rw [e] at h; exact h.elim
  | some sl =>
    rw [e] at h
    cases sl with
    | no => exact h.elim
    | ow d =>
      obtain ⟨v, hv, r⟩ := sr.slo i d e
      exact ⟨v, hv, h v H (F i) sr.fr r ⟨(sr.own i).1, (sr.own i).2⟩⟩
    | bo is d =>
      obtain ⟨v, f, hv, r, b⟩ := sr.slb i is d e
      exact ⟨v, hv, h v H f sr.fr r fun a ha => by
        rcases b a ha with ⟨j, _, q⟩ | q
        · exact .inr ((sr.own j).2 a q).1
        · exact q.1⟩
theorem s_retN : PS X (.Return none pos) (tS X.K CA W retN) := psI ps_retN fun D σ H ⟨A, H0, F, G, ρ, sr, h⟩ => h .non H [] sr.fr .non ⟨List.nodup_nil, fun a ha => nomatch ha⟩
theorem s_if (hc : PT X c (tT X.K CA W t)) (ha : PSs X a (tS X.K CA W s)) (hb : PSs X b (tS X.K CA W u)) : PS X (.If c a b pos) (tS X.K CA W (ifS t s u)) := by
  refine psI (ps_if hc ha hb) fun D σ H ⟨A, H0, F, G, ρ, sr, h⟩ => ?_
  refine ⟨A, H0, F, G, ρ, sr, (lift h sr).imp fun b _ q H' s' => ?_⟩
  cases b with
  | true => exact ⟨A, H0, F, G, ρ, sr.same s', q⟩
  | false => exact ⟨A, H0, F, G, ρ, sr.same s', q⟩
theorem s_drop (he : PE X e (tE X.K CA W se)) (hs : swapsWith e none pos.line X.env = pure false := by rfl) : PS X (.Expr e pos) (tS X.K CA W (dropS se)) := by
  refine psI (ps_expr he hs) fun D σ H ⟨A, H0, F, G, ρ, sr, h⟩ => ?_
  exact ⟨A, H0, F, G, ρ, sr, (lift h sr).imp fun ⟨k, d⟩ _ q v H' f s r o => q σ H' F (sr.same s)⟩
/-- target = value -/
theorem asg_ok {D : Ends} {σ : L2.St} {H : Hp} (h : tS X.K CA W (asgS tt se) D σ H) : tE X.K CA W se σ H fun x H1 => tG X.K sl tt x σ H1 D.nx := by
  obtain ⟨A, H0, F, G, ρ, sr, h⟩ := h
  refine ⟨A, H0, F, G, ρ, sr, (lift h sr).imp fun ⟨k, d⟩ _ q v H' f s r o => ⟨A, H0, H, F, G, ρ, k, d, f, sr, s, r, o, ?_⟩⟩
  cases ht : tt k d ρ with
  | none => simp only [ht] at q; exact q.elim
  | some ρ' => simp only [ht] at q; exact fun σ' F' p => q σ' H' F' p.sr
theorem s_asg (he : PE X e (tE X.K CA W se)) (hg : PG X tg (tG X.K sl tt)) (hs : swapsWithSole [tg] e pos.line X.env = pure false := by rfl) (hw : swappedStores [tg] e X.env = pure none := by rfl)
    (h1 : (assignEach [tg] X.env).map (·.2) = [assign tg X.env] := by rfl) : PS X (.Assign [tg] e pos) (tS X.K CA W (asgS tt se)) :=
  psI (ps_asg he hg hs hw h1) fun D σ H h => asg_ok h
theorem s_set (i : Nat) {x : Str} (hN : X.N.Nodup) (he : PE X e (tE X.K CA W se)) (hi : X.N[i]? = some x := by rfl) (hx : Loc X.env.scope x := by first | exact Or.inl rfl | exact Or.inr rfl) (hs : swapsWith e (some (.Name x pos')) pos.line X.env = pure false := by rfl)
    (hf : X.fn x = true ∨ X.env.scope.names.lookup x = some .local := by first | exact .inl rfl | exact .inr rfl | assumption) : PS X (.Assign [.Name x pos'] e pos) (tS X.K CA W (asgS (tgN i) se)) := by
  refine psI (ps_set hN hi hx he hs hf) fun D σ H h => ?_
  obtain ⟨A, H0, F, G, ρ, sr, h⟩ := h
  refine ⟨A, H0, F, G, ρ, sr, (lift h sr).imp fun ⟨k, d⟩ _ q v H' f s r o => ?_⟩
  obtain ⟨f', sr', _⟩ := sr.set s r o i
  exact q _ _ _ sr'
theorem s_setlc {i : Nat} {y : Str} {py : Pos} {elt tg iter : Expr} {ifs : List Expr} {scope : Scope} {pos spos : Pos} {si : SI} {t : Tgt} {st : STs} {se : SE} {sl : List Nat} (own : List (Str × Nat)) (hc : X.calm = true) (hN : X.N.Nodup) (hi : PI X tg iter (tI X.K CA W si)) (ok : BlkOk X.N X.env.scope scope own)
    (hg : ∀ (s : Shared) (H : Hp) (C : Addr) (cl : List (Str × Addr)) (fp : List Addr), PG (X.blk s H scope (compEnvC scope cl C X.env) fp) tg (tG X.K sl t)) (hsl : ∀ j ∈ sl, j ∈ own.map (·.2))
    (ht : ∀ (s : Shared) (H : Hp) (C : Addr) (cl : List (Str × Addr)) (fp : List Addr), PTs (X.blk s H scope (compEnvC scope cl C X.env) fp) ifs (tT X.K CA W0 st))
    (he : ∀ (s : Shared) (H : Hp) (C : Addr) (cl : List (Str × Addr)) (fp : List Addr), PE (X.blk s H scope (compEnvC scope cl C X.env) fp) elt (tE X.K CA W0 se))
    (hsw : swapsWith (.ListComp elt [⟨tg, iter, ifs, 0⟩] scope pos) (some (.Name y py)) spos.line X.env = pure true) (hy : X.N[i]? = some y := by rfl) (hyl : X.env.scope.names.lookup y = some .local := by rfl) (hs : ∀ x, foldedSetIterable iter X.env x = pure x := by intro _; rfl) :
    PS X (.Assign [.Name y py] (.ListComp elt [⟨tg, iter, ifs, 0⟩] scope pos) spos) (tS X.K CA W (asgS (tgN i) (lcE si (own.map (·.2)) t st se))) := by
  refine psI (e_setlc_raw (W := W) own hc hN hy hyl hsw hi ok hg hsl ht he hs) fun D σ H h => ?_
  obtain ⟨A, H0, F, G, ρ, sr, h⟩ := h
  refine ⟨A, H0, F, G, ρ, sr, (lift h sr).imp fun ⟨k, d⟩ _ q v H' f s r o => ?_⟩
  obtain ⟨f', sr', _⟩ := sr.set s r o i
  exact q _ _ _ sr'
theorem s_raise {x m : String} {j : Nat} {p p2 : Pos} {C : Addr} {bmB : List Value} {B newId initId : String} (hc : X.calm = true) (tk : Takes X W) (Fb : ExcBaseFacts B newId initId bmB) (q : PySem.W.excIn X.K (CA x) bmB newId = true) (gC : X.mg (Str.ofString x) = some (.ref (CA x))) (kC : PySem.W.keepIn X.K (.ref (CA x)) = true)
    (r : Raises X (.ref (CA x))) {ms : Str} (hg : Gl X (Str.ofString x) := by rfl) (hdb : (Str.ofString x == ("__debug__" : Str)) = false := by decide) : PS X (.Raise (some (.Call (.Name (Str.ofString x) p) [.Constant (.str ms) j p2] [] pos')) none pos) (tS X.K CA W (raiS x)) :=
  psI (ps_raise hc tk (pmk_own Fb q gC kC r hg hdb)) fun D σ H ⟨A, H0, F, G, ρ, sr, h⟩ => h σ H F sr
/-- for -/
theorem for_itC {J : It} {ds : List D} {gh : List (D × V)} {K : PySem.W.Frag} (it : IterOk K J ds gh) {g : TG} {tb : TS} {D : Ends} {σ : L2.St} {H : Hp} (Pv : Nat → L2.St → Hp → Prop) (h0 : Pv 0 σ H) (hG : ∀ i σ H, i ≤ ds.length → Pv i σ H → Gh K H (fun _ => True) gh)
    (hs : ∀ i x σ H H', i < ds.length → Pv i σ H → (∀ P, Gh K H P gh → Same H H' ∧ ∃ d f, ds[i]? = some d ∧ Rep K H' d x f ∧ ∀ a ∈ f, P a) → g x σ H' fun σ2 H2 => tb { D with nx := Pv (i + 1), ct := Pv (i + 1), bk := D.nx } σ2 H2) (hd : ∀ σ H, Pv ds.length σ H → D.nx σ H) :
    ∃ W : Nat → Nat → L2.St → Hp → Prop, (∃ m, W 0 m σ H) ∧ ∀ i m σ H, W i m σ H →
      (J.stop i H ∧ D.nx σ H) ∨ (J.go i H ∧ ∃ N : L2.St → Hp → Prop, (∀ σ' H', N σ' H' → ∃ m', m' < m ∧ W (i + 1) m' σ' H') ∧ ∀ x H', J.yld i H x H' → g x σ H' fun σ2 H2 => tb { D with nx := N, ct := N, bk := D.nx } σ2 H2) := by
  refine ⟨fun i m σ H => m = ds.length - i ∧ i ≤ ds.length ∧ Pv i σ H, ⟨ds.length, by simp, Nat.zero_le _, h0⟩, ?_⟩
  rintro i m σ H ⟨rfl, hi, p⟩
  have q := hG i σ H hi p
  by_cases hlt : i < ds.length
  · exact .inr ⟨it.go H _ i hlt q, Pv (i + 1), fun σ' H' p' => ⟨ds.length - (i + 1), by omega, rfl, hlt, p'⟩, fun x H' y => hs i x σ H H' hlt p fun P hP => it.yld H P i x H' hlt hP y⟩
  · have e : i = ds.length := by omega
    subst e
    exact .inl ⟨it.stop H _ q, hd σ H p⟩
theorem s_for {body : List Stmt} {sb : SS} (hp : PassesOwn (model X.prog X.w) X.A X.env X.xe) (hc : X.calm = true) (hi : PI X tg iter (tI X.K CA W si)) (hg : PG X tg (tG X.K sl tt)) (hb : PSs X body (tS X.K CA W sb))
    (hs : ∀ x, foldedSetIterable iter X.env x = pure x := by intro _; rfl) : PS X (.For tg iter body [] pos) (tS X.K CA W (forS si tt sb)) := by
  refine psI (ps_for hp hc hi hg hb hs) fun D σ H ⟨A, H0, F, G, ρ, sr, h⟩ => ?_
  refine ⟨A, H0, F, G, ρ, sr, (lift h sr).imp fun ⟨k, ds⟩ _ q J H1 gh s1 it gk => ?_⟩
  have sr1 := sr.same s1
  obtain ⟨F1, srf, t1, t2⟩ := SR.frz k.is sr1
  have gk1 : Gh X.K H1 (Sh A H0 F1) gh := fun p hp => let ⟨f, h1, h2⟩ := gk p hp; ⟨f, h1, fun a ha => (h2 a ha).elim (t2 a) (t1 a (h1.trk a ha))⟩
  refine for_itC it (fun i σ H => ∃ F ρ, SR X.K A H0 F (gh ++ G) ρ σ H ∧ OutOk X.K CA W A H0 G D (loopS tt sb (ds.drop i) ρ)) ⟨F1, _, srf.gadd gk1, q⟩ (fun i σ H _ ⟨F, ρ, sr, _⟩ p hp => let ⟨f, h1, h2⟩ := sr.gho p (List.mem_append_left _ hp); ⟨f, h1, fun _ _ => trivial⟩) ?_ ?_
  · rintro i x σ2 H2 H3 hi ⟨F2, ρ2, sr2, o2⟩ yl
    obtain ⟨sy, d, f, hd, r, hf⟩ := yl (Sh A H0 F2) fun p hp => sr2.gho p (List.mem_append_left _ hp)
    have hdrop : ds.drop i = d :: ds.drop (i + 1) := by
      rw [List.drop_eq_getElem_cons hi]
      congr 1
      rw [List.getElem?_eq_getElem hi] at hd
      exact Option.some.inj hd
    rw [hdrop] at o2
    refine ⟨A, H0, H3, F2, gh ++ G, ρ2, .bor [], d, f, sr2.same sy, Same.refl _, r, fun a ha => .inr (hf a ha), ?_⟩
    have o2 : OutOk X.K CA W A H0 G D (match tt (.bor []) d ρ2 with
      | none => .st
      | some ρ1 => match sb ρ1 with
        | .nx ρ2 => loopS tt sb (ds.drop (i + 1)) ρ2
        | .ct ρ2 => loopS tt sb (ds.drop (i + 1)) ρ2
        | .bk ρ2 => .nx ρ2
        | o => o) := o2
    cases h1 : tt (.bor []) d ρ2 with
    | none => rw [h1] at o2; exact o2.elim
    | some ρ3 =>
      rw [h1] at o2
      intro σ' F' p
      refine ⟨A, H0, F', gh ++ G, ρ3, p.sr, ?_⟩
      have sub : ∀ p ∈ G, p ∈ gh ++ G := fun p hp => List.mem_append_right _ hp
      cases h2 : sb ρ3 with
      | nx ρ4 => simp only [h2] at o2; exact fun σ4 H4 F4 sr4 => ⟨F4, ρ4, sr4, o2⟩
      | ct ρ4 => simp only [h2] at o2; exact fun σ4 H4 F4 sr4 => ⟨F4, ρ4, sr4, o2⟩
      | bk ρ4 => simp only [h2] at o2; exact fun σ4 H4 F4 sr4 => o2 σ4 H4 F4 (sr4.gsub sub)
      | rt k' d' => simp only [h2] at o2; exact o2
      | ex c ρ4 => simp only [h2] at o2; exact fun σ4 H4 F4 sr4 => o2 σ4 H4 F4 (sr4.gsub sub)
      | st => simp only [h2] at o2; exact o2.elim
      | ri ρ4 k' d' => simp only [h2] at o2; exact fun v4 σ4 Hx4 H4 F4 f4 sr4 s4 r4 o4 => o2 v4 σ4 Hx4 H4 F4 f4 (sr4.gsub sub) s4 r4 o4
  · rintro σ2 H2 ⟨F2, ρ2, sr2, o2⟩
    rw [List.drop_length] at o2
    exact o2 σ2 H2 F2 (sr2.gsub fun p hp => List.mem_append_right _ hp)
end
end Cz
set_option maxHeartbeats 1000000
/-! Cz8: what changes a slot's own object; defs. -/
namespace Cz
open PySem PySem.Spec PyProof.Rows L2
theorem inv_len (j : Nat) (ρ : Env) : (inv j ρ).length = ρ.length := by unfold inv; rw [List.length_map]
theorem inv_ow {j i : Nat} {ρ : Env} {d : D} : (inv j ρ)[i]? = some (.ow d) ↔ ρ[i]? = some (.ow d) := by
  unfold inv
  rw [List.getElem?_map]
  cases h : ρ[i]? with
  | none => simp
  | some s =>
    cases s with
    | no => simp
    | ow d' => simp
    | bo is d' =>
      by_cases hj : j ∈ is
      · simp [hj]
      · simp [hj]
theorem inv_bo {j i : Nat} {ρ : Env} {d : D} {is : List Nat} (h : (inv j ρ)[i]? = some (.bo is d)) : ρ[i]? = some (.bo is d) ∧ j ∉ is := by
  unfold inv at h
  rw [List.getElem?_map] at h
  cases e : ρ[i]? with
  | none => rw [e] at h; cases h
  | some s =>
    rw [e] at h
    cases s with
    | no => simp at h
    | ow d' => simp at h
    | bo is' d' =>
      by_cases hj : j ∈ is'
      · simp [hj] at h
      · simp [hj] at h
        obtain ⟨e1, e2⟩ := h
        subst e1; subst e2
        exact ⟨rfl, hj⟩
section
variable {K : PySem.W.Frag} {A : Addr → Prop} {H0 Hb H : Hp} {F : Nat → List Addr} {G : List (D × V)} {ρ : Env} {σ : L2.St}
/-- an object that slot j owns is written: the slot's data is d' from then on -/
theorem SR.mutS {j : Nat} {a : Addr} {o : HO} {d d' : D} {v : V} {f' : List Addr} (sr : SR K A H0 F G ρ σ Hb) (s : Same Hb H) (ha : a ∈ F j) (hm : L2.Mut (some o)) (hs : ρ[j]? = some (.ow d)) (hv : σ[j]? = some (some v))
    (r : Rep K (upd H a o) d' v f') (nf : f'.Nodup) (hf : ∀ b ∈ f', b ∈ F j ∨ Hb b = none) (hmu : ∀ b ∈ f', Mu ((upd H a o) b)) : SR K A H0 (updF F j f') G ((inv j ρ).set j (.ow d')) σ (upd H a o) := by
  have sr1 := sr.same s
  have mua := ((sr1.own j).2 a ha).2
  have hj : j < ρ.length := (List.getElem?_eq_some_iff.mp hs).1
  have nt : ∀ b ob, H b = some ob → IsT ob → (upd H a o) b = some ob := fun b ob e t => by
    by_cases h : b = a
    · subst h
      rw [e] at mua
      have := mua.m
      cases ob <;> first | exact t.elim | exact this.elim
    · rw [upd_ne h]; exact e
  have kp : ∀ {f : List Addr}, a ∉ f → ∀ b ∈ f, ∀ ob, H b = some ob → (upd H a o) b = some ob := fun {f} hf b hb ob e => by
    have hne : b ≠ a := fun z => hf (by rw [← z]; exact hb)
    rw [upd_ne hne]; exact e
  have mu : ∀ {b : Addr}, Mu (H b) → Mu ((upd H a o) b) := fun {b} h => by
    by_cases e : b = a
    · subst e; exact ⟨by rw [upd_same]; exact hm⟩
    · rw [upd_ne e]; exact h
  have sh : ∀ {b : Addr}, Hb b ≠ none → Sh A H0 F b → b ≠ a ∧ Sh A H0 (updF F j f') b := fun {b} hb h => by
    refine ⟨fun z => h.2 j (z ▸ ha), h.1, fun m hm' => ?_⟩
    by_cases e : m = j
    · subst e
      rw [updF_same] at hm'
      exact (hf b hm').elim (h.2 m) hb
    · rw [updF_ne e] at hm'; exact h.2 m hm'
  refine ⟨by rw [List.length_set, inv_len]; exact sr.len, fun b ob e => ?_, fun i => ?_, fun i m b hi hm' => ?_, fun i d2 e => ?_, fun i is d2 e => ?_, fun p hp => ?_, fun i hi hn => ?_, fin_upd sr.fin⟩
  · have hb : b ≠ a := fun z => by subst z; rw [((sr.own j).2 b ha).1] at e; cases e
    rw [upd_ne hb]; exact sr1.fr b ob e
  · by_cases e : i = j
    · subst e
      rw [updF_same]
      exact ⟨nf, fun b hb => ⟨(hf b hb).elim (fun q => ((sr.own i).2 b q).1) fun q => sr.fr.free q, hmu b hb⟩⟩
    · rw [updF_ne e]
      exact ⟨(sr1.own i).1, fun b hb => ⟨((sr1.own i).2 b hb).1, mu ((sr1.own i).2 b hb).2⟩⟩
  · by_cases e : i = j
    · by_cases e' : m = j
      · rw [e, e']
      · rw [e, updF_same] at hi; rw [updF_ne e'] at hm'
        rcases hf b hi with q | q
        · exact e.trans (sr.dis j m b q hm')
        · exact absurd q ((sr.own m).2 b hm').2.ne
    · by_cases e' : m = j
      · rw [e', updF_same] at hm'; rw [updF_ne e] at hi
        rcases hf b hm' with q | q
        · exact (sr.dis i j b hi q).trans e'.symm
        · exact absurd q ((sr.own i).2 b hi).2.ne
      · rw [updF_ne e] at hi; rw [updF_ne e'] at hm'; exact sr.dis i m b hi hm'
  · by_cases h : j = i
    · subst h
      rw [List.getElem?_set_self (by rw [inv_len]; exact hj)] at e
      cases e
      exact ⟨v, hv, by rw [updF_same]; exact r⟩
    · rw [List.getElem?_set_ne h] at e
      obtain ⟨v2, h1, h2⟩ := sr1.slo i d2 (inv_ow.mp e)
      rw [updF_ne (Ne.symm h)]
      exact ⟨v2, h1, h2.frame nt (kp fun z => h (sr.dis j i a ha z))⟩
  · by_cases h : j = i
    · subst h
      rw [List.getElem?_set_self (by rw [inv_len]; exact hj)] at e
      cases e
    · rw [List.getElem?_set_ne h] at e
      obtain ⟨e1, hji⟩ := inv_bo e
      obtain ⟨v2, g, h1, h2, h3⟩ := sr.slb i is d2 e1
      have key : ∀ b ∈ g, b ≠ a ∧ ((∃ m ∈ is, b ∈ updF F j f' m) ∨ Sh A H0 (updF F j f') b) := fun b hb => by
        rcases h3 b hb with ⟨m, hm', q⟩ | q
        · have hmj : m ≠ j := fun z => hji (z ▸ hm')
          exact ⟨fun z => hmj (sr.dis m j a (z ▸ q) ha), .inl ⟨m, hm', by rw [updF_ne hmj]; exact q⟩⟩
        · obtain ⟨q1, q2⟩ := sh (h2.trk b hb) q
          exact ⟨q1, .inr q2⟩
      exact ⟨v2, g, h1, (h2.same s).frame nt (kp fun z => (key a z).1 rfl), fun b hb => (key b hb).2⟩
  · obtain ⟨g, h1, h2⟩ := sr.gho p hp
    exact ⟨g, (h1.same s).frame nt (kp fun z => (sh (h1.trk a z) (h2 a z)).1 rfl), fun b hb => (sh (h1.trk b hb) (h2 b hb)).2⟩
  · rw [List.length_set, inv_len] at hi
    by_cases h : j = i
    · subst h; exact ⟨d', by rw [List.getElem?_set_self (by rw [inv_len]; exact hi)]⟩
    · rw [updF_ne (Ne.symm h)] at hn
      obtain ⟨d2, e⟩ := sr.emp i hi hn
      exact ⟨d2, by rw [List.getElem?_set_ne h]; exact inv_ow.mpr e⟩
/-- own, or without nodes -/
def okIn (k : Kd) (ds : List D) : Bool := match k with
  | .own => true
  | .bor _ => noLs ds
theorem okIn_ok {k : Kd} {ds : List D} {vs : List V} {f : List Addr} (h : okIn k ds = true) (r : Reps K H ds vs f) (o : KOk A H0 F Hb H k f) : f.Nodup ∧ ∀ a ∈ f, Hb a = none ∧ Mu (H a) := by
  cases k with
  | own => exact o
  | bor is => rw [Reps.noL r h]; exact ⟨List.nodup_nil, fun a ha => nomatch ha⟩
end
/-! ### x op= e of ints and texts -/
def augB : Operator → D → D → Option D
  | .Add, .int i, .int j => some (.int (i + j))
  | .Sub, .int i, .int j => some (.int (i - j))
  | .Mult, .int i, .int j => if mulOk i j = true then some (.int (i * j)) else none
  | .Add, .str i, .str j => if i.length + j.length ≤ LIM then some (.str (i ++ j)) else none
  | _, _, _ => none
def slD : Option Sl → Option D
  | some (.ow d) => some d
  | some (.bo _ d) => some d
  | _ => none
def augS (i : Nat) (op : Operator) (s : SE) : SS := fun ρ => match slD ρ[i]? with
  | some d0 => (s ρ).out ρ fun x => match augB op d0 x.2 with
    | some d => .nx (ρ.set i (mkS .own d))
    | none => .st
  | none => .st
def rAug : Operator → R2
  | .Add => fun x y H Q => rI0 (fun i j => .int (i + j)) x y H Q ∨ (∃ i j, x = .str i ∧ y = .str j ∧ i.length + j.length ≤ sizeLine ∧ Q (.str (i ++ j)) H)
  | .Sub => rI0 fun i j => .int (i - j)
  | .Mult => rI CMulX fun i j => .int (i * j)
  | _ => fun _ _ _ _ => False
theorem rAug_ok {X : Cx} (op : Operator) : OpR X (inplaceOp op) (rAug op) := by
  cases op with
  | Add => exact OpR.or iop_add iop_add_str
  | Sub => exact iop_sub
  | Mult => exact opI fun _ _ _ _ _ _ _ hc q => imul_int q hc.ok
  | _ => exact fun _ _ _ _ _ _ _ _ _ _ _ _ h => h.elim
theorem augB_ok {K : PySem.W.Frag} {H : Hp} {op : Operator} {d1 d2 d : D} {v1 v2 : V} {f1 f2 : List Addr} {Q : VK} (r1 : Rep K H d1 v1 f1) (r2 : Rep K H d2 v2 f2) (e : augB op d1 d2 = some d) (h : ∀ v, Rep K H d v [] → Q v H) : rAug op v1 v2 H Q := by
  cases op with
  | Add =>
    cases d1 with
    | int i => cases d2 with
      | int j => simp only [augB, Option.some.injEq] at e; subst e; cases r1; cases r2; exact .inl ⟨_, _, rfl, rfl, h _ (.int _)⟩
      | _ => simp [augB] at e
    | str i => cases d2 with
      | str j =>
        simp only [augB] at e
        split at e
        · rename_i hz; cases e; cases r1; cases r2; exact .inr ⟨_, _, rfl, rfl, by rw [← lim_eq]; exact hz, h _ (.str _)⟩
        · cases e
      | _ => simp [augB] at e
    | _ => cases d2 <;> simp [augB] at e
  | Sub =>
    cases d1 with
    | int i => cases d2 with
      | int j => simp only [augB, Option.some.injEq] at e; subst e; cases r1; cases r2; exact ⟨_, _, rfl, rfl, h _ (.int _)⟩
      | _ => simp [augB] at e
    | _ => cases d2 <;> simp [augB] at e
  | Mult =>
    cases d1 with
    | int i => cases d2 with
      | int j =>
        simp only [augB] at e
        split at e
        · rename_i hz; cases e; cases r1; cases r2; exact ⟨_, _, rfl, rfl, show i.natAbs.log2 + j.natAbs.log2 < 100000000 from of_decide_eq_true hz, h _ (.int _)⟩
        · cases e
      | _ => simp [augB] at e
    | _ => cases d2 <;> simp [augB] at e
  | _ => cases d1 <;> cases d2 <;> simp [augB] at e
section
variable {X : Cx} {CA : String → Addr} {W : WX} {pos pos' p1 p2 p3 : Pos} {e : Expr} {se : SE}
theorem s_aug (i : Nat) {x : Str} {op : Operator} (hN : X.N.Nodup) (he : PE X e (tE X.K CA W se)) (hi : X.N[i]? = some x := by rfl) (hx : Loc X.env.scope x := by first | exact Or.inl rfl | exact Or.inr rfl)
    (hf : X.fn x = true ∨ X.env.scope.names.lookup x = some .local := by first | exact .inl rfl | exact .inr rfl | assumption) : PS X (.AugAssign (.Name x pos') op e pos) (tS X.K CA W (augS i op se)) := by
  refine psI (ps_aug hN hi hx he (rAug_ok op) hf) fun D σ H ⟨A, H0, F, G, ρ, sr, h⟩ => ?_
  have slot : ∀ d0, slD ρ[i]? = some d0 → ∃ v f, σ[i]? = some (some v) ∧ Rep X.K H d0 v f := fun d0 hd => by
    cases e : ρ[i]? with
    | none => rw [e] at hd; cases hd
    | some sl =>
      rw [e] at hd
      cases sl with
      | no => cases hd
      | ow d => cases hd; obtain ⟨v, h1, h2⟩ := sr.slo i _ e; exact ⟨v, _, h1, h2⟩
      | bo is d => cases hd; obtain ⟨v, f, h1, h2, _⟩ := sr.slb i _ _ e; exact ⟨v, f, h1, h2⟩
  unfold augS at h
  cases hd : slD ρ[i]? with
  | none => rw [hd] at h; exact h.elim
  | some d0 =>
    rw [hd] at h
    obtain ⟨v, f, hv, r0⟩ := slot d0 hd
    refine ⟨v, hv, A, H0, F, G, ρ, sr, (lift h sr).imp fun ⟨k, d⟩ _ q y H1 f1 s1 r1 o1 => ?_⟩
    cases ha : augB op d0 d with
    | none => simp only [ha] at q; exact q.elim
    | some d' =>
      simp only [ha] at q
      refine augB_ok (r0.same s1) r1 ha fun z rz => ?_
      obtain ⟨f', sr', _⟩ := sr.set (k := .own) s1 rz ⟨List.nodup_nil, fun a ha => nomatch ha⟩ i
      exact q _ _ _ sr'
/-! ### x.append(e), x.extend(e) -/
def appS (i : Nat) (s : SE) : SS := fun ρ => match ρ[i]? with
  | some (.ow (.lst ds)) => (s ρ).out ρ fun x => if okIn x.1 [x.2] = true ∧ ds.length < LIM then .nx ((inv i ρ).set i (.ow (.lst (ds ++ [x.2])))) else .st
  | _ => .st
theorem s_app (i : Nat) {x : Str} (he : PE X e (tE X.K CA W se)) (hi : X.N[i]? = some x := by rfl) (hv : Vis X.env.scope x := by first | exact Or.inl rfl | exact Or.inr (Or.inl rfl) | exact Or.inr (Or.inr rfl)) (hd : (x == ("__debug__" : Str)) = false := by decide)
    (hcd : (x == ("__classdict__" : Str)) = false := by decide) (hst : starEach [e] X.env = [(false, eval e X.env)] := by rfl) (hs : swapsWith (.Call (.Attribute (.Name x p1) "append" p2) [e] [] p3) none pos.line X.env = pure false := by rfl)
    (hline : (p2.endLine == p3.line) = true := by rfl) :
    PS X (.Expr (.Call (.Attribute (.Name x p1) "append" p2) [e] [] p3) pos) (tS X.K CA W (appS i se)) := by
  refine psI (ps_expr (pe_bm PySem.F.plainAttrs_list PySem.F.slot_list_append PySem.F.type_list_append mt_append (pe_var hi hv hd hcd) (pa_cons he pa_nil hst) rfl (by rw [hst]; rfl) hline hst rfl) hs) fun D σ H ⟨A, H0, F, G, ρ, sr, h⟩ => ?_
  have h : OutOk X.K CA W A H0 G D (appS i se ρ) := h
  unfold appS at h
  split at h
  · rename_i ds hsl
    obtain ⟨v, hv, r0⟩ := sr.slo i _ hsl
    obtain ⟨Fi, hFi⟩ : ∃ f, F i = f := ⟨_, rfl⟩
    rw [hFi] at r0
    cases r0 with
    | @lst a vs _ f0 hl q0 =>
      refine ⟨_, hv, .inl ⟨rfl, _, .of hl⟩, ?_⟩
      refine ⟨A, H0, F, G, ρ, sr, (lift h sr).imp fun ⟨k, d⟩ _ q y H1 f1 s1 r1 o1 => ?_⟩
      by_cases hc : okIn k [d] = true ∧ ds.length < LIM
      · have q : OutOk X.K CA W A H0 G D (if okIn k [d] = true ∧ ds.length < LIM then .nx ((inv i ρ).set i (.ow (.lst (ds ++ [d])))) else .st) := q
        rw [if_pos hc] at q
        have hl1 := s1 _ _ hl
        have rs : Reps X.K H1 [d] [y] f1 := by
          have := Reps.cons r1 (Reps.nil (K := X.K) (H := H1))
          rw [List.append_nil] at this
          exact this
        obtain ⟨n1, m1⟩ := okIn_ok hc.1 rs o1
        have own := sr.own i
        rw [hFi] at own
        have haF : a ∈ F i := by rw [hFi]; exact List.mem_cons_self
        have trk0 : ∀ b ∈ a :: f0, H b ≠ none := fun b hb => (own.2 b hb).2.ne
        have nd := List.nodup_cons.mp own.1
        have ne1 : ∀ b ∈ f1, b ≠ a := fun b hb z => trk0 a List.mem_cons_self (z ▸ (m1 b hb).1)
        refine ⟨a, vs, y, rfl, rfl, hl1, by rw [← lim_eq, ← q0.length]; exact hc.2, ?_⟩
        have nt : ∀ b ob, H1 b = some ob → IsT ob → (upd H1 a (.lst (vs ++ [y]))) b = some ob := fun b ob e t => by
          by_cases h : b = a
          · subst h; rw [hl1] at e; cases e; exact t.elim
          · rw [upd_ne h]; exact e
        have kp : ∀ {f : List Addr}, (∀ b ∈ f, b ≠ a) → ∀ b ∈ f, ∀ ob, H1 b = some ob → (upd H1 a (.lst (vs ++ [y]))) b = some ob := fun {f} hf b hb ob e => by rw [upd_ne (hf b hb)]; exact e
        have r' : Rep X.K (upd H1 a (.lst (vs ++ [y]))) (.lst (ds ++ [d])) (.ref a) (a :: (f0 ++ f1)) :=
          .lst upd_same (((q0.same s1).frame nt (kp fun b hb z => nd.1 (z ▸ hb))).app (rs.frame nt (kp ne1)))
        refine q σ _ _ (sr.mutS s1 haF trivial hsl hv r' ?_ (fun b hb => ?_) fun b hb => ?_)
        · refine List.nodup_cons.mpr ⟨fun z => ?_, List.nodup_append.mpr ⟨nd.2, n1, fun b hb c hc' e => ?_⟩⟩
          · rcases List.mem_append.mp z with z | z
            · exact nd.1 z
            · exact ne1 a z rfl
          · subst e; exact trk0 b (List.mem_cons_of_mem _ hb) (m1 b hc').1
        · rw [hFi]
          rcases List.mem_cons.mp hb with e | hb
          · subst e; exact .inl List.mem_cons_self
          · rcases List.mem_append.mp hb with hb | hb
            · exact .inl (List.mem_cons_of_mem _ hb)
            · exact .inr (m1 b hb).1
        · by_cases e : b = a
          · subst e; exact ⟨by rw [upd_same]; trivial⟩
          · rw [upd_ne e]
            rcases List.mem_cons.mp hb with z | hb
            · exact absurd z e
            · rcases List.mem_append.mp hb with hb | hb
              · exact ((own.2 b (List.mem_cons_of_mem _ hb)).2).same s1
              · exact (m1 b hb).2
      · have q : OutOk X.K CA W A H0 G D (if okIn k [d] = true ∧ ds.length < LIM then .nx ((inv i ρ).set i (.ow (.lst (ds ++ [d])))) else .st) := q
        rw [if_neg hc] at q
        exact q.elim
  · exact h.elim
end
/-! ### defs -/
/-- a def's answer by its body: m names in all -/
def runF (m : Nat) (body : SS) (ds : List D) : R KD := match body (ds.map (Sl.bo []) ++ List.replicate (m - ds.length) .no) with
  | .rt k d => .ok (nk k d, d)
  | .nx _ => .ok (.own, .non)
  | .ex c _ => .ex c
  | _ => .st
/-- a def of n parameters, m names in all -/
def mkF (n m : Nat) (body : SS) : Fn := fun ds => if ds.length = n then runF m body ds else .st
section
variable {K : PySem.W.Frag}
theorem Reps.getI : ∀ {H : Hp} {ds : List D} {vs : List V} {f : List Addr} {i : Nat} {d : D}, Reps K H ds vs f → ds[i]? = some d → ∃ v g, vs[i]? = some v ∧ Rep K H d v g ∧ ∀ b ∈ g, b ∈ f := fun r e =>
  let ⟨v, g, h1, h2, h3, _⟩ := r.get e; ⟨v, g, h1, h2, h3⟩
theorem SR.init {A : Addr → Prop} {H : Hp} {ds : List D} {vs : List V} {f : List Addr} {N : List Str} (r : Reps K H ds vs f) (hA : ∀ a ∈ f, A a) (hN : ds.length ≤ N.length) :
    SR K A H (fun _ => []) [] (ds.map (Sl.bo []) ++ List.replicate (N.length - ds.length) Sl.no) (start N vs) H := by
  have no : ∀ (i : Nat) (x : Sl), (ds.map (Sl.bo []) ++ List.replicate (N.length - ds.length) Sl.no)[i]? = some x → x = .no ∨ ∃ d, ds[i]? = some d ∧ x = .bo [] d := fun i x e => by
    by_cases hi : i < ds.length
    · rw [List.getElem?_append_left (by simpa using hi), List.getElem?_map] at e
      cases hd : ds[i]? with
      | none => rw [hd] at e; cases e
      | some d => rw [hd] at e; cases e; exact .inr ⟨d, rfl, rfl⟩
    · rw [List.getElem?_append_right (by simpa using hi), List.getElem?_replicate] at e
      split at e
      · cases e; exact .inl rfl
      · cases e
  refine ⟨?_, Same.refl H, fun i => ⟨List.nodup_nil, (fun a ha => nomatch ha)⟩, (fun i j a hi => nomatch hi), fun i d e => ?_, fun i is d e => ?_, (fun p hp => nomatch hp), fun i _ hn => absurd rfl hn, ⟨0, fun _ _ => rfl⟩⟩
  · unfold L2.start
    rw [List.length_append, List.length_append, List.length_map, List.length_map, List.length_replicate, List.length_replicate, r.length]
  · rcases no i _ e with q | ⟨d', _, q⟩ <;> cases q
  · rcases no i _ e with q | ⟨d', hd, q⟩
    · cases q
    · cases q
      obtain ⟨v, g, h1, h2, h3⟩ := r.getI hd
      refine ⟨v, g, ?_, h2, fun a ha => .inr ⟨.inl (hA a (h3 a ha)), fun j hj => nomatch hj⟩⟩
      have hi : i < vs.length := (List.getElem?_eq_some_iff.mp h1).1
      unfold L2.start
      rw [List.getElem?_append_left (by simpa using hi), List.getElem?_map, h1]
      rfl
end
section
variable {P : Program} {w : World} {K : PySem.W.Frag} {mg : Str → Option Value} {base : Heap} {CA : String → Addr}
/-- THE RULE: a def answers as its body's evaluation tells -/
theorem fn_ok {fn : Fn} {x qual : Str} {st : Stmt} {f : Addr} {fd : FuncData} {N ps : List Str} {k : Nat} {body : SS} {dvs : List V} (Fu : FunD K x qual (defArgs st) (defBody st) (defScope st) dvs [] f fd) (S : FnScope N ps (defScope st))
    (hb : ∀ (cdv : Value) (A : Around) (outer : List PySem.Env) (s : Shared) (H : Hp) (E : XK), Room k (A.deeper (envOfC qual (defScope st) s.heap.objs.size f cdv)) →
      PSs (cxOf (L2.CX P w) P w K mg base N qual (defScope st) f cdv A outer s H E) (defBody st) (tS K CA (fun cls d _ H => E cls d H) body))
    (hx : ∀ ds, ds.length = ps.length → fn ds = runF N.length body ds)
    (hN : ps.length ≤ N.length) : FnOk P w K mg base (L2.CX P w) (k + 1) f fd ps (spF K CA fn ps.length) := by
  refine Fu.ok S (fun vs H Q E ⟨A, ds, g, h1, h2, _⟩ => by rw [← h2.length]; exact h1) fun cdv Ar outer s H vs Q E hr ⟨A, ds, g, h1, h2, h3, h4⟩ => ?_
  refine ⟨_, hb cdv Ar outer s H E hr, A, H, fun _ => [], [], _, SR.init h2 h3 (by rw [h1]; exact hN), ?_⟩
  rw [hx ds h1] at h4
  unfold runF at h4
  cases hbo : body (ds.map (Sl.bo []) ++ List.replicate (N.length - ds.length) .no) with
  | nx ρ =>
    simp only [hbo] at h4
    exact fun σ' H' F' sr => h4 .non H' [] sr.fr .non ⟨List.nodup_nil, fun a ha => nomatch ha⟩
  | rt k d =>
    simp only [hbo] at h4
    refine fun v H' f s r o => h4 v H' f s r ?_
    unfold nk
    split
    · rename_i hz; rw [Rep.noL r hz]; exact ⟨List.nodup_nil, fun a ha => nomatch ha⟩
    · exact o
  | bk ρ => simp only [hbo] at h4
  | ct ρ => simp only [hbo] at h4
  | ex c ρ => simp only [hbo] at h4; exact fun σ' H' F' sr => h4 H' sr.fr
  | st => simp only [hbo] at h4
  | ri ρ k d => simp only [hbo] at h4
end
end Cz
set_option maxHeartbeats 1000000
/-! Cz9: what a law's walk is made of. -/
namespace Cz
open PySem PySem.Spec PyProof.Rows L2
theorem hu65 {k : Nat} {A : Around} (hr : Room k A) : A.units + 65 < cLine := by have := hr.un; omega
theorem hpo {M : Model} {A : Around} {env : PySem.Env} : True := trivial
/-- an own error over ValueError -/
structure ExG (K : PySem.W.Frag) (mg : Str → Option Value) (CA : String → Addr) (x : String) : Prop where
  i : PySem.W.excIn K (CA x) [.type "ValueError", .type "Exception", .type "BaseException", .type "object"] "ValueError.__new__" = true
  g : mg (Str.ofString x) = some (.ref (CA x))
  k : PySem.W.keepIn K (.ref (CA x)) = true
  b : PySem.W.subIn K (.ref (CA x)) (.type "BaseException") = some true
  t : PySem.W.typeIn K (.ref (CA x)) = some (.type "type")
theorem ExG.r {X : Cx} {CA : String → Addr} {x : String} {mg : Str → Option Value} (e : ExG X.K mg CA x) : Raises X (.ref (CA x)) := raises_own e.b e.t
/-- classes by their names -/
def caOf (mg : Str → Option Value) (x : String) : Addr := match mg (Str.ofString x) with
  | some (.ref a) => a
  | _ => 0
theorem exG_of {K : PySem.W.Frag} {h : Heap} {mg : Str → Option Value} {C : Addr} {x : String} (X : K.In h) (G : h.Ns mainGlobals mg) (a : PySem.W.nsIn K mainGlobals (Str.ofString x) = some (some (.ref C))) (i : PySem.W.excIn K C [.type "ValueError", .type "Exception", .type "BaseException", .type "object"] "ValueError.__new__" = true)
    (k : PySem.W.keepIn K (.ref C) = true) (b : PySem.W.subIn K (.ref C) (.type "BaseException") = some true) (t : PySem.W.typeIn K (.ref C) = some (.type "type")) : ExG K mg (caOf mg) x := by
  have e : mg (Str.ofString x) = some (.ref C) := PySem.W.mg_of X G a
  have e2 : caOf mg x = C := by unfold caOf; rw [e]
  exact ⟨e2 ▸ i, by rw [e2]; exact e, e2 ▸ k, e2 ▸ b, e2 ▸ t⟩
section
variable {P : Program} {w : World} {K : PySem.W.Frag} {mg : Str → Option Value} {base : Heap} {CA : String → Addr}
theorem fn_g {k : Nat} {x : String} {n : Nat} {ps : List Str} {m : Nat} {body : SS} {f : Addr} {fd : FuncData} {dvs : List V} {ds : List Value} {dd : List D} (hm : mg (Str.ofString x) = some (.ref f)) (h : FnOk P w K mg base (L2.CX P w) k f fd ps (spF K CA (mkF n m body) ps.length))
    (kp : PySem.W.keepIn K (.ref f) = true) (b : Binds K fd ps ds) (v : Vals dvs ds) (r : ∀ H, Reps K H dd dvs []) (hn : n = ps.length) : FnG P w K mg base CA (mkF n m body) k x dd := by
  refine ⟨f, fd, ps, dvs, ds, hm, h, kp, b, v, r, fun as z => ?_⟩
  unfold mkF at z
  split at z
  · rw [← hn]; assumption
  · exact absurd rfl z
theorem mkF_of {n m : Nat} {body : SS} {ds : List D} (h : ds.length = n) : mkF n m body ds = runF m body ds := if_pos h
/-- a def as the top left it -/
theorem funD0 {x qual : Str} {st : Stmt} {f : Addr} {oc : Value} {od an : Option Addr} {osl : Array (Option Value)} {kV doc pm cdv ct : Value} (l : K.lookup f = some ⟨oc, od, .func (PySem.W.fnOf x qual (defArgs st) (defBody st) (defScope st) .none kV doc pm an cdv ct), osl⟩)
    (c : PySem.W.codeIn K cdv qual = true) (k : PySem.W.keepIn K (.ref f) = true) : FunD K x qual (defArgs st) (defBody st) (defScope st) [] [] f (PySem.W.fnOf x qual (defArgs st) (defBody st) (defScope st) .none kV doc pm an cdv ct) :=
  ⟨⟨oc, od, _, kV, doc, pm, an, cdv, ct, osl, rfl, l, c, .inl ⟨rfl, rfl⟩, .inl rfl⟩, k⟩
theorem funD1 {x qual : Str} {st : Stmt} {f T : Addr} {oc oc2 : Value} {od od2 an : Option Addr} {osl osl2 : Array (Option Value)} {kV doc pm cdv ct : Value} {dvs : List V} {its : List Value} {n : Nat} (l : K.lookup f = some ⟨oc, od, .func (PySem.W.fnOf x qual (defArgs st) (defBody st) (defScope st) (.ref T) kV doc pm an cdv ct), osl⟩)
    (c : PySem.W.codeIn K cdv qual = true) (k : PySem.W.keepIn K (.ref f) = true) (lT : K.lookup T = some ⟨oc2, od2, .seq its.toArray n, osl2⟩) (v : Vals dvs its) (hd : dvs ≠ []) :
    FunD K x qual (defArgs st) (defBody st) (defScope st) dvs [] f (PySem.W.fnOf x qual (defArgs st) (defBody st) (defScope st) (.ref T) kV doc pm an cdv ct) :=
  ⟨⟨oc, od, _, kV, doc, pm, an, cdv, ct, osl, rfl, l, c, .inr ⟨hd, T, _, its, n, rfl, lT, rfl, v⟩, .inl rfl⟩, k⟩
/-- the law's promise -/
def spLaw (K : PySem.W.Frag) : Sp := fun vs H Q _ => ∃ (a : Addr) (ns : List Int), vs = [.ref a] ∧ SqL K H a (ns.map V.int) ∧ ns.length ≤ 63 ∧ (∀ z ∈ ns, Builtin.Int.intBits z ≤ 1048576) ∧ ∀ H', Q (.bl true) H'
theorem law_sp {fn : Fn} (h : ∀ ns : List Int, ns.length ≤ 63 → (∀ z ∈ ns, Builtin.Int.intBits z ≤ 1048576) → fn [.scr (ns.map D.int)] = .ok (.own, .bl true)) (vs : List V) (H : Hp) (Q : VK) (E : XK) (q : spLaw K vs H Q E) : spF K CA fn 1 vs H Q E := by
  obtain ⟨a, ns, rfl, hS, hl, hb, q⟩ := q
  have fin : ∀ f, Rep K H (.scr (ns.map D.int)) (.ref a) f → spF K CA fn 1 [.ref a] H Q E := fun f r => by
    have r2 : Reps K H [D.scr (ns.map D.int)] [V.ref a] f := by
      have := Reps.cons r (Reps.nil (K := K) (H := H))
      rw [List.append_nil] at this
      exact this
    refine ⟨fun _ => True, _, f, rfl, r2, fun _ _ => trivial, ?_⟩
    rw [h ns hl hb]
    intro v H' g s rv o
    cases rv
    exact q H'
  rcases hS with (hS | ⟨o, hS⟩) | hS
  · exact fin _ (.scw hS (Reps.ints ns))
  · exact fin _ (.scr (.inr ⟨o, hS⟩) (Reps.ints ns))
  · exact fin _ (.scr (.inl fun H' => .inr hS) (Reps.ints ns))
end
end Cz
set_option maxHeartbeats 2000000
/-! Cz10: enumerate of lists and tuples, ranges by any step, reversed ranges. -/
namespace Cz
open PySem PySem.Spec PyProof.Rows L2
/-! ### enumerate -/
section
/-- enumerate's object over an iterator that begins so -/
theorem meets_enum_one {v : Value} {o : Obj} {Hh : Heap → Prop} (B : Begins v o Hh) : Meets (Builtin.«enumerate.__new__» ⟨[.type "enumerate", v], []⟩) (fun _ R s => Hh s.heap ∧ R (.ok (.ret (.ref (s.heap.push o).objs.size)))
      { s with heap := (s.heap.push o).push { cls := .type "enumerate", data := .fields #[.none, .bool false, .ref s.heap.objs.size, rawInt 0, .none, .none] } }) :=
  .of_wp fun prog w A R s ⟨h1, h⟩ => by
    obtain ⟨hp, g, d, tk, os⟩ := s
    have hsub := sub_enumerate
    have it1 : ∀ {A' : Around} {E : Value → Shared → Prop} {Q : Value → Shared → Prop}, Q (.ref hp.objs.size) ⟨hp.push o, g, d, tk, os⟩ → wpAny (model prog w) A' (pyIter v) Q E ⟨hp, g, d, tk, os⟩ :=
      fun q => B.iter prog w _ _ ⟨hp, g, d, tk, os⟩ _ h1 q
    wp_walk using it1
    refine wpAny_stack_any fun st => wpAny_pure ?_
    split
    · rename_i c _ _ _ _ _
      cases (c == Value.type "enumerate") <;> (wp_walk using it1; exact ⟨_, rfl, h⟩)
    · wp_walk using it1
      exact ⟨_, rfl, h⟩
theorem enum_call {prog : Program} {w : World} {A : Around} {E : Value → Shared → Prop} {s : Shared} {v : Value} {o : Obj} {Hh : Heap → Prop} {Q : Value → Shared → Prop} (B : Begins v o Hh) (h1 : Hh s.heap)
    (h : ∀ h', IsEnum h' (s.heap.objs.size + 1) s.heap.objs.size 0 .none → h'.get? s.heap.objs.size = some o → (∀ b ob, s.heap.get? b = some ob → h'.get? b = some ob) → Q (.ref (s.heap.objs.size + 1)) { s with heap := h' }) :
    wpAny (model prog w) A (call (.type "enumerate") [v]) Q E s := by
  refine callType_new F.called_enumerate (by decide) (F.typeCall_enumerate_1 _) (F.newCall_enumerate_1 _) (fun obj => F.args_object_init_2 obj _) F.entry_enumerate_new (meets_enum_one B) ⟨h1, ?_⟩
  have hz : (s.heap.push o).objs.size = s.heap.objs.size + 1 := Heap.size_push ..
  show _ ∧ _
  rw [hz]
  have he : IsEnum ((s.heap.push o).push { cls := .type "enumerate", data := .fields #[.none, .bool false, .ref s.heap.objs.size, rawInt 0, .none, .none] }) (s.heap.objs.size + 1) s.heap.objs.size 0 .none := by
    have := Heap.get?_push_size (s.heap.push o) (o := { cls := .type "enumerate", data := .fields #[.none, .bool false, .ref s.heap.objs.size, rawInt 0, .none, .none] }) rfl
    rw [hz] at this; exact this
  exact ⟨⟨_, he, rfl⟩, h _ he (Heap.get?_push_of_some _ (Heap.get?_push_size _ B.free)) fun b ob x => Heap.get?_push_of_some _ (Heap.get?_push_of_some _ x)⟩
end
/-- a tuple's items with their places, in new pairs -/
def IteT (K : PySem.W.Frag) (a : Addr) : It :=
  ⟨fun i H => ∃ (xs : List V) (x : V), SqT K H a xs ∧ xs[i]? = some x, fun i H v H' => ∃ T x, v = .ref T ∧ H T = none ∧ H' = upd H T (.tup [.int (i : Nat), x]) ∧ ∀ xs, SqT K H a xs → xs[i]? = some x, fun i H => ∃ xs : List V, SqT K H a xs ∧ xs.length = i⟩
theorem turn_enumT {P : Program} {w : World} {K : PySem.W.Frag} {elts : List Expr} {kk : Nat} {tpos : Pos} (a e it : Addr) :
    Turn P w K (.Tuple elts kk tpos) (IteT K a) [e, it] e (fun i h => (∃ old, IsEnum h e it ((i : Nat) : Int) old) ∧ h.IsTupleIter it a i ∧ e ≠ it ∧ e ≠ a ∧ a ≠ it) where
  mem := by simp
  obj := fun i h st b hb => by
    obtain ⟨⟨old, he⟩, ⟨o, ho, hc, hd⟩, _⟩ := st
    have e' : b = e ∨ b = it := by simpa using hb
    rcases e' with z | z
    · rw [z]; exact ⟨_, he, fun v q => nomatch q⟩
    · rw [z]; exact ⟨o, ho, fun v q => by rw [hd] at q; cases q⟩
  keep := fun i h h' ⟨⟨old, he⟩, hi, hne⟩ k => ⟨⟨old, k e (by simp) _ he⟩, hi.at fun o q => k it (by simp) o q, hne⟩
  item := by
    intro X hP hw hK hc i pins s σ H E I hf st hg
    subst hP hw hK
    obtain ⟨⟨old, he⟩, hit, hne, hea, hai⟩ := st
    obtain ⟨xs, x, hq, hx⟩ := hg
    obtain ⟨its, rv, p, hz⟩ := I.tuple hq
    have p : s.heap.IsTuple a its.toArray := p
    obtain ⟨u, hu, ru⟩ := rv.get hx
    have hel : e < s.heap.objs.size := Heap.lt_size he
    have hil : it < s.heap.objs.size := by obtain ⟨_, q, _⟩ := hit; exact Heap.lt_size q
    have hin : i < its.toArray.size := by
      have : i < its.length := (List.getElem?_eq_some_iff.mp hu).1
      simpa using this
    refine wpAny_pyNext_enum_itemD (Draws.tuple (A := X.A.in1) (I.ok.hd hc) it a hai its.toArray) he ⟨hit, p⟩ hin hne (by simp [hne, hea]) fun y h' tk hy ho hst' hT hsz hk => ?_
    have ey : y = u := by
      have hy : its.toArray[i]? = some y := hy
      have : its[i]? = some y := by simpa using hy
      rw [hu] at this
      exact (Option.some.inj this).symm
    subst ey
    refine ⟨_, rfl, wpAny_letOwnedTupleGo_enum (s := { s with heap := h', toks := tk + 1 }) ho fun h'' he' sb => ?_⟩
    have hT2 : h''.get? s.heap.objs.size = some { cls := .type "tuple", data := .seq #[.int i tk, y] } := (sb.2 _ (Nat.ne_of_gt hel)).trans hT
    have new : ObjOk X.prog X.w (upd H s.heap.objs.size (.tup [.int (i : Nat), x])) h'' s.heap.objs.size (.tup [.int (i : Nat), x]) :=
      ⟨by show 2 ≤ sizeLine; decide, [.int i tk, y], .cons ⟨_, rfl⟩ (.cons ru .nil), ⟨_, hT2, rfl, _, rfl⟩⟩
    have I1 : Inv X pins σ (upd H s.heap.objs.size (.tup [.int (i : Nat), x])) { s with heap := h'', toks := tk + 1 } :=
      I.turnedNew (ch := [e, it]) (fun b ob hb q => (sb.2 b (fun z => hb (by simp [z]))).trans (hk b ob (fun z => hb (by simp [z])) (fun z => hb (by simp [z])) q)) hf (Nat.le_refl _) new
    refine ⟨.ref s.heap.objs.size, _, I1, rfl, ⟨_, x, rfl, I.hok.fresh (Nat.le_refl _), rfl, fun ys hy => by rw [I.tuple_inj hy hq]; exact hx⟩, ⟨⟨y, ?_⟩, hst'.1.at fun o q => (sb.2 it (Ne.symm hne)).trans q, hne, hea, hai⟩, fun b hb => ?_⟩
    · have e1 : ((i + 1 : Nat) : Int) = (i : Int) + 1 := by omega
      rw [e1]; exact he'
    · have hb' : b < s.heap.objs.size := by
        have e' : b = e ∨ b = it := by simpa using hb
        rcases e' with z | z <;> rw [z] <;> assumption
      rw [upd_ne (Nat.ne_of_lt hb')]
      exact (hf b hb).1
  done := by
    intro X hP hw hK hc i pins s σ H E I hf st hg
    subst hP hw hK
    obtain ⟨⟨old, he⟩, hit, hne, hea, hai⟩ := st
    obtain ⟨xs, hq, hx⟩ := hg
    obtain ⟨its, rv, p, hz⟩ := I.tuple hq
    have p : s.heap.IsTuple a its.toArray := p
    obtain ⟨f0, f1, f2, f3, f4, f5⟩ := hf it (by simp)
    have hl := rv.length
    have hi : i = its.toArray.size := by simp; omega
    rw [hi] at hit
    exact wpAny_pyNext_enum_endD (Draws.tuple (A := X.A.in1) (I.ok.hd hc) it a hai its.toArray) he ⟨hit, p⟩ fun h' eb => ⟨rfl, I.turned (t' := s.toks) (fun b o hb q => eb b o hb q) f0 f1 f3 f4 f5⟩
  self := fun A i s Q E st h => let ⟨⟨_, he⟩, _⟩ := st; wpAny_pyIter_enum he h
def iEnumA (K : PySem.W.Frag) (ta : TA) : TI := fun σ H R => ta σ H fun vs H1 => ∃ a, vs = [.ref a] ∧ (((∃ xs, SqL K H1 a xs) ∧ R (Ite K a) H1) ∨ ((∃ xs, SqT K H1 a xs) ∧ R (IteT K a) H1))
theorem pi_enumA {X : Cx} {e : Expr} {ta : TA} {p pos tpos : Pos} {elts : List Expr} {kk : Nat} (hg : Gl X "enumerate") (hm : X.mg "enumerate" = none) (ha : PA X [e] ta) (hs : starEach [e] X.env = [(false, eval e X.env)] := by rfl) :
    PI X (.Tuple elts kk tpos) (.Call (.Name "enumerate" p) [e] [] pos) (iEnumA X.K ta) := by
  refine ⟨fun pins s σ H R I h => ?_⟩
  refine Call_ (ld_blt I hg hm boot_enumerate (PyProof.Rows.callWith_type1 (thn (ha.run pos pins s σ H _ I h) fun us s1 ⟨vs, H1, I1, r1, a, ex, q⟩ => ?_) hs rfl))
  subst ex
  cases r1 with
  | cons r rr =>
    cases rr
    cases r
    have two : ∀ b, b ∈ [s1.heap.objs.size + 1, s1.heap.objs.size] → s1.heap.objs.size ≤ b := fun b hb => by
      have e' : b = s1.heap.objs.size + 1 ∨ b = s1.heap.objs.size := by simpa using hb
      omega
    rcases q with ⟨⟨xs, hq⟩, q⟩ | ⟨⟨xs, hq⟩, q⟩
    · obtain ⟨its, rv, p', hz⟩ := I1.list hq
      refine enum_call (begins_list a its.toArray) p'.isList fun h' he hit hk => wpAny_pyIter_enum he ?_
      exact ⟨s1.heap.objs.size + 1, [s1.heap.objs.size + 1, s1.heap.objs.size], _, _, H1, rfl, I1.kept (t' := s1.toks) hk, turn_enum a (s1.heap.objs.size + 1) s1.heap.objs.size, ⟨⟨.none, he⟩, ⟨_, hit, rfl, rfl⟩, Nat.succ_ne_self _⟩,
        fun b hb => I1.fpOk (two b hb) (I1.hok.fresh (two b hb)), q⟩
    · obtain ⟨its, rv, p', hz⟩ := I1.tuple hq
      have p' : s1.heap.IsTuple a its.toArray := p'
      have hal : a < s1.heap.objs.size := by obtain ⟨o, ho, _⟩ := p'; exact Heap.lt_size ho
      refine enum_call (begins_tuple a its.toArray) p' fun h' he hit hk => wpAny_pyIter_enum he ?_
      exact ⟨s1.heap.objs.size + 1, [s1.heap.objs.size + 1, s1.heap.objs.size], _, _, H1, rfl, I1.kept (t' := s1.toks) hk, turn_enumT a (s1.heap.objs.size + 1) s1.heap.objs.size, ⟨⟨.none, he⟩, ⟨_, hit, rfl, rfl⟩, Nat.succ_ne_self _, Nat.ne_of_gt (Nat.lt_succ_of_lt hal), Nat.ne_of_lt hal⟩,
        fun b hb => I1.fpOk (two b hb) (I1.hok.fresh (two b hb)), q⟩
/-! the evaluator's side -/
def enumD : Nat → List D → List D
  | _, [] => []
  | i, d :: ds => .tup [.int (i : Int), d] :: enumD (i + 1) ds
theorem enumD_len : ∀ (ds : List D) (i : Nat), (enumD i ds).length = ds.length
  | [], _ => rfl
  | _ :: ds, i => by simp [enumD, enumD_len ds]
theorem enumD_get : ∀ (ds : List D) (i j : Nat), (enumD i ds)[j]? = ds[j]?.map fun d => .tup [.int ((i + j : Nat) : Int), d]
  | [], _, _ => by simp [enumD]
  | d :: ds, i, 0 => by simp [enumD]
  | d :: ds, i, j + 1 => by
    simp only [enumD, List.getElem?_cons_succ, enumD_get ds]
    rw [show i + 1 + j = i + (j + 1) by omega]
def enumI (s : SE) : SI := fun ρ => (s ρ).bind fun x => match x.2 with
  | .lst ds => .ok (x.1, enumD 0 ds)
  | .scr ds => .ok (x.1, enumD 0 ds)
  | .tup ds => .ok (x.1, enumD 0 ds)
  | _ => .st
section
variable {K : PySem.W.Frag}
theorem pair_rep {H : Hp} {T : Addr} {i : Int} {d : D} {x : V} {g : List Addr} (hT : H T = none) (r : Rep K H d x g) : Rep K (upd H T (.tup [.int i, x])) (.tup [.int i, d]) (.ref T) g := by
  have : Reps K (upd H T (.tup [.int i, x])) [.int i, d] [.int i, x] ([] ++ (g ++ [])) := .cons (.int i) (.cons (r.same (same_upd hT)) .nil)
  rw [List.nil_append, List.append_nil] at this
  exact .tup upd_same this
theorem iter_enumL {ds : List D} {a : Addr} {d0 : D} (hd : d0 = .lst ds ∨ d0 = .scr ds) : IterOk K (Ite K a) (enumD 0 ds) [(d0, .ref a)] := by
  have get : ∀ {H P}, Gh K H P [(d0, .ref a)] → ∃ vs g, SqL K H a vs ∧ Reps K H ds vs g ∧ ∀ b ∈ g, P b := fun {H P} h => by
    obtain ⟨f, r, hp⟩ := h _ List.mem_cons_self
    rcases hd with e | e <;> subst e
    · obtain ⟨a', vs, g, e, t, q, i, n⟩ := r.lstI
      cases e
      exact ⟨vs, g, t, q, fun b hb => hp b (i b hb)⟩
    · obtain ⟨a', vs, g, e, t, q, i, n⟩ := r.scrI
      cases e
      exact ⟨vs, g, t, q, fun b hb => hp b (i b hb)⟩
  refine ⟨fun H P i hi h => ?_, fun H P h => ?_, fun H P i x H' hi h y => ?_⟩
  · obtain ⟨vs, g, t, q, _⟩ := get h
    rw [enumD_len] at hi
    have hv : i < vs.length := by rw [← q.length]; exact hi
    exact ⟨vs, vs[i], t, by simp [hv]⟩
  · obtain ⟨vs, g, t, q, _⟩ := get h
    exact ⟨vs, t, by rw [enumD_len, q.length]; exact Nat.le_refl _⟩
  · obtain ⟨vs, g, t, q, hp⟩ := get h
    rw [enumD_len] at hi
    obtain ⟨T, z, ex, nT, eH, y⟩ := y
    subst ex; subst eH
    obtain ⟨v, g', h1, h2, h3, _⟩ := q.get (i := i) (d := ds[i]) (by simp [hi])
    rw [y vs t] at h1
    cases h1
    exact ⟨same_upd nT, .tup [.int (i : Int), ds[i]], g', by simp [enumD_get, hi], pair_rep nT h2, fun b hb => hp b (h3 b hb)⟩
theorem iter_enumT {ds : List D} {a : Addr} : IterOk K (IteT K a) (enumD 0 ds) [(.tup ds, .ref a)] := by
  have get : ∀ {H P}, Gh K H P [(.tup ds, .ref a)] → ∃ vs g, SqT K H a vs ∧ Reps K H ds vs g ∧ ∀ b ∈ g, P b := fun {H P} h => by
    obtain ⟨f, r, hp⟩ := h _ List.mem_cons_self
    obtain ⟨a', vs, e, t, q⟩ := r.tupI
    cases e
    exact ⟨vs, f, .of t, q, hp⟩
  refine ⟨fun H P i hi h => ?_, fun H P h => ?_, fun H P i x H' hi h y => ?_⟩
  · obtain ⟨vs, g, t, q, _⟩ := get h
    rw [enumD_len] at hi
    have hv : i < vs.length := by rw [← q.length]; exact hi
    exact ⟨vs, vs[i], t, by simp [hv]⟩
  · obtain ⟨vs, g, t, q, _⟩ := get h
    exact ⟨vs, t, by rw [enumD_len, q.length]⟩
  · obtain ⟨vs, g, t, q, hp⟩ := get h
    rw [enumD_len] at hi
    obtain ⟨T, z, ex, nT, eH, y⟩ := y
    subst ex; subst eH
    obtain ⟨v, g', h1, h2, h3, _⟩ := q.get (i := i) (d := ds[i]) (by simp [hi])
    rw [y vs t] at h1
    cases h1
    exact ⟨same_upd nT, .tup [.int (i : Int), ds[i]], g', by simp [enumD_get, hi], pair_rep nT h2, fun b hb => hp b (h3 b hb)⟩
/-- a range by any step, its first number, its step, how many -/
def rngc (lo c : Int) (n : Nat) : List D := (List.range n).map fun (i : Nat) => .int (lo + (i : Int) * c)
theorem iter_rngc {lo c : Int} {n : Nat} : IterOk K (Itc lo c n) (rngc lo c n) [] := by
  refine ⟨fun H P i hi h => ?_, fun H P h => ?_, fun H P i x H' hi h y => ?_⟩
  · show i < n
    simpa [rngc] using hi
  · show n ≤ _
    simp [rngc]
  · obtain ⟨e, ex⟩ := y
    subst e; subst ex
    have hi : i < n := by simpa [rngc] using hi
    exact ⟨Same.refl _, .int (lo + (i : Int) * c), [], by simp [rngc, hi], .int _, fun _ q => nomatch q⟩
end
/-- how many turns upwards -/
def upN (i j k : Int) : Nat := (if i < j then (j - i - 1) / k + 1 else 0).toNat
theorem upN_ok {i j k : Int} (hk : 0 < k) (hk2 : k < 1073741824) (ha : -(2 ^ 62) ≤ i) (ha' : i < 2 ^ 62) (hb : -(2 ^ 62) ≤ j) (hb' : j < 2 ^ 62) : RgC i j k (upN i j k) := by
  have e : Builtin.Range.rangeSize i j k = if i < j then (j - i - 1) / k + 1 else 0 := by
    unfold Builtin.Range.rangeSize
    rw [if_pos hk]
  have h0 : 0 ≤ (if i < j then (j - i - 1) / k + 1 else 0) ∧ (if i < j then (j - i - 1) / k + 1 else 0) ≤ 9223372036854775807 := by
    split
    · have h1 : 0 ≤ (j - i - 1) / k := Int.ediv_nonneg (by omega) (by omega)
      have h2 : (j - i - 1) / k ≤ j - i - 1 := Int.ediv_le_self _ (by omega)
      omega
    · omega
  refine ⟨by omega, by omega, ?_, by rw [e]; unfold upN; omega⟩
  unfold Builtin.Range.small
  rw [e]
  generalize (if i < j then (j - i - 1) / k + 1 else 0) = z at h0 ⊢
  simp only [Builtin.Range.rangeFitsLong, Bool.and_eq_true, Bool.or_eq_true, decide_eq_true_eq, beq_iff_eq]
  refine ⟨by omega, .inr ?_⟩
  rw [if_pos (by omega)]
  simp only [Bool.and_eq_true, decide_eq_true_eq]
  omega
/-- range(a, b, -1) -/
noncomputable def rngdI (a b c : SE) : SI := fun ρ => (a ρ).bind fun x => (b ρ).bind fun y => (c ρ).bind fun z => match x.2, y.2, z.2 with
  | .int i, .int j, .int k => if k = -1 ∧ (rgOk i && rgOk j) = true then .ok (.own, rngc i (-1) (i - j).toNat) else if (0 < k ∧ k < 1073741824) ∧ (rgOk i && rgOk j) = true then .ok (.own, rngc i k (upN i j k)) else .st
  | _, _, _ => .st
/-- reversed(range(..)) -/
abbrev SRg := Env → R (Int × Int)
def rgE1 (a : SE) : SRg := fun ρ => (a ρ).bind fun x => match x.2 with
  | .int j => .ok (0, j)
  | _ => .st
def rgE2 (a b : SE) : SRg := fun ρ => (a ρ).bind fun x => (b ρ).bind fun y => match x.2, y.2 with
  | .int i, .int j => .ok (i, j)
  | _, _ => .st
noncomputable def revI (r : SRg) : SI := fun ρ => (r ρ).bind fun x => if (rgOk x.1 && rgOk x.2) = true then .ok (.own, rngc (x.1 + (((x.2 - x.1).toNat : Nat) : Int) - 1) (-1) (x.2 - x.1).toNat) else .st
/-- list(range(..)) -/
noncomputable def lrgE (r : SRg) : SE := fun ρ => (r ρ).bind fun x => if (rgOk x.1 && rgOk x.2) = true ∧ (x.2 - x.1).toNat ≤ LIM then .ok (.own, .lst (rng x.1 (x.2 - x.1).toNat)) else .st
def tR (K : PySem.W.Frag) (CA : String → Addr) (W : WX) (s : SRg) : L2.St → Hp → (Int → Int → Hp → Prop) → Prop := fun σ H Q =>
  ∃ A H0 F G ρ, SR K A H0 F G ρ σ H ∧ Post K CA W σ H (s ρ) fun x => ∀ H', Same H H' → Q x.1 x.2 H'
section
variable {X : Cx} {CA : String → Addr} {W : WX} {pos p tpos : Pos} {tg e a b c : Expr} {sa sb sc : SE} {elts : List Expr} {kk : Nat} {r : SRg}
theorem i_enum (hm : X.mg "enumerate" = none) (ha : PE X e (tE X.K CA W sa)) (hg : Gl X "enumerate" := by rfl) (hs : starEach [e] X.env = [(false, eval e X.env)] := by rfl) : PI X (.Tuple elts kk tpos) (.Call (.Name "enumerate" p) [e] [] pos) (tI X.K CA W (enumI sa)) := by
  refine piI (pi_enumA hg hm (pa_cons ha pa_nil hs) hs) fun σ H R ⟨A, H0, F, G, ρ, sr, h⟩ => ?_
  refine ⟨A, H0, F, G, ρ, sr, h.bind fun ⟨k, d⟩ h1 => ?_⟩
  intro v H1 f s1 r o
  cases d with
  | lst ds =>
    obtain ⟨a, vs, g, rfl, t, q, i1, n1⟩ := id r.lstI
    exact ⟨a, rfl, .inl ⟨⟨vs, t⟩, h1 _ _ _ s1 (iter_enumL (.inl rfl)) (Gh.one r (o.bok sr))⟩⟩
  | scr ds =>
    obtain ⟨a, vs, g, rfl, t, q, i1, n1⟩ := id r.scrI
    exact ⟨a, rfl, .inl ⟨⟨vs, t⟩, h1 _ _ _ s1 (iter_enumL (.inr rfl)) (Gh.one r (o.bok sr))⟩⟩
  | tup ds =>
    obtain ⟨a, vs, rfl, t, q⟩ := id r.tupI
    exact ⟨a, rfl, .inr ⟨⟨vs, .of t⟩, h1 _ _ _ s1 iter_enumT (Gh.one r (o.bok sr))⟩⟩
  | _ => exact h1.elim
theorem i_rngd (hm : X.mg "range" = none) (ha : PE X a (tE X.K CA W sa)) (hb : PE X b (tE X.K CA W sb)) (hc : PE X c (tE X.K CA W sc)) (hg : Gl X "range" := by rfl) (hs : starEach [a, b, c] X.env = (false, eval a X.env) :: starEach [b, c] X.env := by rfl)
    (hs2 : starEach [b, c] X.env = (false, eval b X.env) :: starEach [c] X.env := by rfl) (hs3 : starEach [c] X.env = (false, eval c X.env) :: starEach [] X.env := by rfl) (hpl : (backTo pos (starEach [b, c] X.env)).any (·.1) = false := by rfl) :
    PI X tg (.Call (.Name "range" p) [a, b, c] [] pos) (tI X.K CA W (rngdI sa sb sc)) := by
  refine piI (pi_range3 hg hm (pa_cons ha (pa_cons hb (pa_cons hc pa_nil hs3) hs2) hs) hs hpl) fun σ H R ⟨A, H0, F, G, ρ, sr, h⟩ => ?_
  refine ⟨A, H0, F, G, ρ, sr, h.bind fun ⟨k, d⟩ h1 => ?_⟩
  intro v H1 f s1 r o
  refine ⟨A, H0, F, G, ρ, sr.same s1, (h1.later s1).bind fun ⟨k2, d2⟩ h2 => ?_⟩
  intro v2 H2 f2 s2 r2 o2
  refine ⟨A, H0, F, G, ρ, (sr.same s1).same s2, (h2.later s2).bind fun ⟨k3, d3⟩ h3 => ?_⟩
  intro v3 H3 f3 s3 r3 o3
  cases d with
  | int i =>
    cases d2 with
    | int j =>
      cases d3 with
      | int m =>
        cases r; cases r2; cases r3
        by_cases c1 : m = -1 ∧ (rgOk i && rgOk j) = true
        · have h4 := h3
          simp only [c1, and_self, if_true] at h4
          obtain ⟨em, hz⟩ := c1
          subst em
          have hz' := Bool.and_eq_true_iff.mp hz
          exact ⟨i, j, -1, _, rfl, RgC.neg (rgOk_lo hz'.1) (rgOk_hi hz'.1) (rgOk_lo hz'.2) (rgOk_hi hz'.2), h4 _ _ _ ((s1.trans s2).trans s3) iter_rngc (fun p hp => nomatch hp)⟩
        · have h4 := h3
          simp only [c1, if_false] at h4
          obtain ⟨⟨hm, hz⟩, h5⟩ := h4.ite
          have hz' := Bool.and_eq_true_iff.mp hz
          exact ⟨i, j, m, _, rfl, upN_ok hm.1 hm.2 (rgOk_lo hz'.1) (rgOk_hi hz'.1) (rgOk_lo hz'.2) (rgOk_hi hz'.2), h5 _ _ _ ((s1.trans s2).trans s3) iter_rngc (fun p hp => nomatch hp)⟩
      | _ => exact h3.elim
    | _ => exact h3.elim
  | _ => exact h3.elim
theorem r_1 (hm : X.mg "range" = none) (ha : PE X a (tE X.K CA W sa)) (hg : Gl X "range" := by rfl) (na : starEach [a] X.env = (false, eval a X.env) :: starEach [] X.env := by rfl) : PRg X (.Call (.Name "range" p) [a] [] pos) (tR X.K CA W (rgE1 sa)) := by
  intro pins s σ H Q I ⟨A, H0, F, G, ρ, sr, h⟩
  refine prg_1 hg hm ha na pins s σ H Q I ⟨A, H0, F, G, ρ, sr, h.bind fun ⟨k, d⟩ h1 => ?_⟩
  intro v H1 f s1 r o
  cases d with
  | int i => cases r; exact ⟨i, rfl, h1 H1 s1⟩
  | _ => exact h1.elim
theorem r_2 (hm : X.mg "range" = none) (ha : PE X a (tE X.K CA W sa)) (hb : PE X b (tE X.K CA W sb)) (hg : Gl X "range" := by rfl) (na : starEach [a, b] X.env = (false, eval a X.env) :: starEach [b] X.env := by rfl) (nb : starEach [b] X.env = (false, eval b X.env) :: starEach [] X.env := by rfl)
    (hp : (backTo pos (starEach [b] X.env)).any (·.1) = false := by rfl) : PRg X (.Call (.Name "range" p) [a, b] [] pos) (tR X.K CA W (rgE2 sa sb)) := by
  intro pins s σ H Q I ⟨A, H0, F, G, ρ, sr, h⟩
  refine prg_2 hg hm ha hb na nb hp pins s σ H Q I ⟨A, H0, F, G, ρ, sr, h.bind fun ⟨k, d⟩ h1 => ?_⟩
  intro v H1 f s1 r o
  refine ⟨A, H0, F, G, ρ, sr.same s1, (h1.later s1).bind fun ⟨k2, d2⟩ h2 => ?_⟩
  intro v2 H2 f2 s2 r2 o2
  cases d with
  | int i =>
    cases d2 with
    | int j => cases r; cases r2; exact ⟨i, j, rfl, rfl, h2 H2 (s1.trans s2)⟩
    | _ => exact h2.elim
  | _ => exact h2.elim
theorem i_rev (hm : X.mg "reversed" = none) (he : PRg X e (tR X.K CA W r)) (hg : Gl X "reversed" := by rfl) (hs : starEach [e] X.env = (false, eval e X.env) :: starEach [] X.env := by rfl) : PI X tg (.Call (.Name "reversed" p) [e] [] pos) (tI X.K CA W (revI r)) := by
  refine piI (pi_revR hg hm he hs) fun σ H R ⟨A, H0, F, G, ρ, sr, h⟩ => ?_
  refine ⟨A, H0, F, G, ρ, sr, h.bind fun ⟨i, j⟩ h1 => ?_⟩
  intro H1 s1
  obtain ⟨hz, h2⟩ := h1.ite
  have hz' := Bool.and_eq_true_iff.mp hz
  exact ⟨rgOk_lo hz'.1, rgOk_hi hz'.1, rgOk_lo hz'.2, rgOk_hi hz'.2, h2 _ _ _ s1 iter_rngc (fun p hp => nomatch hp)⟩
theorem e_lrg (hc : X.calm = true) (hm : X.mg "list" = none) (he : PRg X e (tR X.K CA W r)) (hg : Gl X "list" := by rfl) (na : starEach [e] X.env = (false, eval e X.env) :: starEach [] X.env := by rfl) : PE X (.Call (.Name "list" p) [e] [] pos) (tE X.K CA W (lrgE r)) := by
  refine peI (pe_listRg hc hg hm he na) fun σ H Q ⟨A, H0, F, G, ρ, sr, h⟩ => ?_
  refine ⟨A, H0, F, G, ρ, sr, h.bind fun ⟨i, j⟩ h1 => ?_⟩
  intro H1 s1
  obtain ⟨⟨hz, hn⟩, h2⟩ := h1.ite
  have hz' := Bool.and_eq_true_iff.mp hz
  have hl : (j - i).toNat ≤ 2 ^ 24 := hn
  refine ⟨⟨rgOk_lo hz'.1, rgOk_hi hz'.1, rgOk_lo hz'.2, rgOk_hi hz'.2, hl⟩, fun q nq => ?_⟩
  have e1 : rng i (j - i).toNat = ((List.range (j - i).toNat).map fun (m : Nat) => i + (m : Int)).map D.int := by simp [rng]
  have e2 : rgV i j = ((List.range (j - i).toNat).map fun (m : Nat) => i + (m : Int)).map V.int := by simp [rgV]
  rw [e1] at h2
  rw [e2]
  exact Cont.newL h2 sr s1 (Reps.ints _) (KOk.nil _) nq
end
end Cz
set_option maxHeartbeats 2000000
/-! Cz11: places within what a slot owns, and what is changed there. -/
namespace Cz
open PySem PySem.Spec PyProof.Rows L2
inductive Ix where
  | at (j : Nat) | key (k : Key) | fld (f : Str)
def putD {κ : Type} [DecidableEq κ] (kvs : List (κ × D)) (k : κ) (v : D) : List (κ × D) := if (kvs.any fun kv => decide (kv.1 = k)) = true then kvs.map (fun kv => if kv.1 = k then (kv.1, v) else kv) else kvs ++ [(k, v)]
def getP : List Ix → D → Option D
  | [], d => some d
  | .at j :: q, .lst ds => ds[j]?.bind (getP q)
  | .key k :: q, .dic kvs => (valD kvs k).bind (getP q)
  | .fld f :: q, .obj _ _ fs => (valD fs f).bind (getP q)
  | _ :: _, _ => none
def setP : List Ix → D → D → Option D
  | [], _, n => some n
  | .at j :: q, .lst ds, n => ds[j]?.bind fun d => (setP q d n).map fun d' => .lst (ds.set j d')
  | .key k :: q, .dic kvs, n => (valD kvs k).bind fun d => (setP q d n).map fun d' => .dic (putD kvs k d')
  | .fld f :: q, .obj t C fs, n => (valD fs f).bind fun d => (setP q d n).map fun d' => .obj t C (putD fs f d')
  | _ :: _, _, _ => none
def navV (H : Hp) : List Ix → V → Option V
  | [], v => some v
  | .at j :: q, .ref a => match H a with
    | some (.lst vs) => vs[j]?.bind (navV H q)
    | _ => none
  | .key k :: q, .ref a => match H a with
    | some (.dK kvs) => (valV kvs k).bind (navV H q)
    | _ => none
  | .fld f :: q, .ref a => match H a with
    | some (.ins _ _ fs) => (valV fs f).bind (navV H q)
    | _ => none
  | _ :: _, _ => none
section
variable {K : PySem.W.Frag} {H H' : Hp}
theorem navV_same {q : List Ix} : ∀ {v w : V}, Same H H' → navV H q v = some w → navV H' q v = some w := by
  induction q with
  | nil => intro v w s h; exact h
  | cons i q ih =>
    intro v w s h
    cases i with
    | «at» j =>
      cases v with
      | ref a =>
        unfold navV at h ⊢
        cases hH : H a with
        | none => rw [hH] at h; cases h
        | some o =>
          rw [hH] at h
          rw [s a o hH]
          cases o with
          | lst vs =>
            simp only at h ⊢
            cases hv : vs[j]? with
            | none => rw [hv] at h; cases h
            | some x => rw [hv] at h; exact ih s h
          | _ => cases h
      | _ => cases h
    | key k =>
      cases v with
      | ref a =>
        unfold navV at h ⊢
        cases hH : H a with
        | none => rw [hH] at h; cases h
        | some o =>
          rw [hH] at h
          rw [s a o hH]
          cases o with
          | dK kvs =>
            simp only at h ⊢
            cases hv : valV kvs k with
            | none => rw [hv] at h; cases h
            | some x => rw [hv] at h; exact ih s h
          | _ => cases h
      | _ => cases h
    | fld k =>
      cases v with
      | ref a =>
        unfold navV at h ⊢
        cases hH : H a with
        | none => rw [hH] at h; cases h
        | some o =>
          rw [hH] at h
          rw [s a o hH]
          cases o with
          | ins _ _ kvs =>
            simp only at h ⊢
            cases hv : valV kvs k with
            | none => rw [hv] at h; cases h
            | some x => rw [hv] at h; exact ih s h
          | _ => cases h
      | _ => cases h
/-- one item told apart -/
theorem Reps.at : ∀ {ds : List D} {vs : List V} {f : List Addr} {j : Nat} {d : D}, Reps K H ds vs f → ds[j]? = some d → ∃ v p g r, vs[j]? = some v ∧ f = p ++ g ++ r ∧ Rep K H d v g ∧
    ∀ (H' : Hp) d' g', (∀ b o, H b = some o → IsT o → H' b = some o) → (∀ b, b ∈ p ∨ b ∈ r → ∀ o, H b = some o → H' b = some o) → Rep K H' d' v g' → Reps K H' (ds.set j d') vs (p ++ g' ++ r)
  | _, _, _, 0, d, .cons (f := f1) (g := g1) r t, e => by
    simp at e; subst e
    refine ⟨_, [], f1, g1, rfl, rfl, r, fun H' d' g' ht hk r' => ?_⟩
    exact .cons r' (t.frame ht fun a ha => hk a (.inr ha))
  | _, _, _, j + 1, d, .cons (f := f1) (g := g1) r t, e => by
    obtain ⟨v, p, g, q, h1, h2, h3, h4⟩ := Reps.at (j := j) (d := d) t (by simpa using e)
    subst h2
    refine ⟨v, f1 ++ p, g, q, by simpa using h1, by simp, h3, fun H' d' g' ht hk r' => ?_⟩
    have := Reps.cons (r.frame ht fun a ha => hk a (.inl (List.mem_append_left _ ha))) (h4 H' d' g' ht (fun b hb => hk b (hb.imp (fun z => List.mem_append_right _ z) id)) r')
    simpa using this
theorem putD_cons_ne {κ : Type} [DecidableEq κ] {k k' : κ} {d v : D} {r : List (κ × D)} (h : k' ≠ k) : putD ((k', d) :: r) k v = (k', d) :: putD r k v := by
  unfold putD
  simp only [List.any_cons, h, decide_false, Bool.false_or]
  split <;> simp [h]
theorem putK_cons_ne {κ : Type} [DecidableEq κ] {k k' : κ} {d v : V} {r : List (κ × V)} (h : k' ≠ k) : putK ((k', d) :: r) k v = (k', d) :: putK r k v := by
  unfold putK
  simp only [List.any_cons, h, decide_false, Bool.false_or]
  split <;> simp [h]
theorem map_out {κ : Type} [DecidableEq κ] {k : κ} {v : D} : ∀ {r : List (κ × D)}, k ∉ r.map (·.1) → r.map (fun kv => if kv.1 = k then (kv.1, v) else kv) = r
  | [], _ => rfl
  | (k', d) :: r, h => by
    have h1 : ¬ k' = k := fun e => h (by simp [e])
    have h2 : k ∉ r.map (·.1) := fun z => h (List.mem_cons_of_mem _ z)
    rw [List.map_cons, map_out h2]
    simp [h1]
theorem map_outV {κ : Type} [DecidableEq κ] {k : κ} {v : V} : ∀ {r : List (κ × V)}, k ∉ r.map (·.1) → r.map (fun kv => if kv.1 = k then (kv.1, v) else kv) = r
  | [], _ => rfl
  | (k', d) :: r, h => by
    have h1 : ¬ k' = k := fun e => h (by simp [e])
    have h2 : k ∉ r.map (·.1) := fun z => h (List.mem_cons_of_mem _ z)
    rw [List.map_cons, map_outV h2]
    simp [h1]
theorem RepK.keys {κ : Type} : ∀ {kds : List (κ × D)} {kvs : List (κ × V)} {f : List Addr}, RepK K H kds kvs f → kvs.map (·.1) = kds.map (·.1)
  | _, _, _, .nil => rfl
  | _, _, _, .cons r t => by simp [RepK.keys t]
theorem putD_in {κ : Type} [DecidableEq κ] {kvs : List (κ × D)} {k : κ} (v : D) (h : k ∈ kvs.map (·.1)) : (putD kvs k v).map (·.1) = kvs.map (·.1) := by
  unfold putD
  have h2 : (kvs.any fun kv => decide (kv.1 = k)) = true := by
    obtain ⟨p, hp, e⟩ := List.mem_map.mp h
    exact List.any_eq_true.mpr ⟨p, hp, decide_eq_true e⟩
  rw [if_pos h2, List.map_map]
  refine List.map_congr_left fun p _ => ?_
  simp only [Function.comp]
  split <;> simp_all
theorem putD_out {κ : Type} [DecidableEq κ] {kvs : List (κ × D)} {k : κ} (v : D) (h : k ∉ kvs.map (·.1)) : putD kvs k v = kvs ++ [(k, v)] := by
  unfold putD
  have h2 : ¬ (kvs.any fun kv => decide (kv.1 = k)) = true := fun z => by
    obtain ⟨p, hp, e⟩ := List.any_eq_true.mp z
    exact h (List.mem_map.mpr ⟨p, hp, of_decide_eq_true e⟩)
  rw [if_neg h2]
theorem putD_nodup {κ : Type} [DecidableEq κ] {kvs : List (κ × D)} {k : κ} {v : D} (h : (kvs.map (·.1)).Nodup) : ((putD kvs k v).map (·.1)).Nodup := by
  rcases Classical.em (k ∈ kvs.map (·.1)) with hk | hk
  · rw [putD_in v hk]; exact h
  · rw [putD_out v hk, List.map_append]
    exact List.nodup_append.mpr ⟨h, by simp, fun a ha b hb e => hk (by
      have : b = k := by simpa using hb
      rw [this] at e; exact e ▸ ha)⟩
/-- one value told apart -/
theorem RepK.at {κ : Type} [DecidableEq κ] : ∀ {kds : List (κ × D)} {kvs : List (κ × V)} {f : List Addr} {k : κ} {d : D}, RepK K H kds kvs f → (kds.map (·.1)).Nodup → valD kds k = some d → ∃ v p g r, valV kvs k = some v ∧ f = p ++ g ++ r ∧ Rep K H d v g ∧
    ∀ (H' : Hp) d' g' v', (∀ b o, H b = some o → IsT o → H' b = some o) → (∀ b, b ∈ p ∨ b ∈ r → ∀ o, H b = some o → H' b = some o) → Rep K H' d' v' g' → RepK K H' (putD kds k d') (putK kvs k v') (p ++ g' ++ r)
  | _, _, _, k, d, .cons (k := k0) (d := d0) (v := v0) (f := f1) (ds := ds) (vs := vs) (g := g1) r t, n, e => by
    rw [List.map_cons, List.nodup_cons] at n
    by_cases h : k0 = k
    · have e : d0 = d := by simpa [valD, h] using e
      subst e; subst h
      refine ⟨v0, [], f1, g1, valV_pos rfl, rfl, r, fun H' d' g' v' ht hk r' => ?_⟩
      have n1 : k0 ∉ ds.map (·.1) := n.1
      have n2 : k0 ∉ vs.map (·.1) := by rw [t.keys]; exact n1
      have e1 : putD ((k0, d0) :: ds) k0 d' = (k0, d') :: ds := by
        unfold putD
        rw [if_pos (by simp), List.map_cons, map_out n1]; simp
      have e2 : putK ((k0, v0) :: vs) k0 v' = (k0, v') :: vs := by
        unfold putK
        rw [if_pos (by simp), List.map_cons, map_outV n2]; simp
      rw [e1, e2]
      exact .cons r' (t.frame ht fun a ha => hk a (.inr ha))
    · obtain ⟨v, p, g, q, h1, h2, h3, h4⟩ := RepK.at (k := k) (d := d) t n.2 (by simpa [valD, h] using e)
      subst h2
      refine ⟨v, f1 ++ p, g, q, by rw [valV_neg (p := (k0, v0)) h]; exact h1, by simp, h3, fun H' d' g' v' ht hk r' => ?_⟩
      rw [putD_cons_ne h, putK_cons_ne h]
      have := RepK.cons (k := k0) (r.frame ht fun a ha => hk a (.inl (List.mem_append_left _ ha))) (h4 H' d' g' v' ht (fun b hb => hk b (hb.imp (fun z => List.mem_append_right _ z) id)) r')
      simpa using this
theorem putK_same {κ : Type} [DecidableEq κ] : ∀ {kvs : List (κ × V)} {k : κ} {v : V}, valV kvs k = some v → (kvs.map (·.1)).Nodup → putK kvs k v = kvs
  | [], k, v, h, _ => by cases h
  | (k', w) :: r, k, v, h, n => by
    rw [List.map_cons, List.nodup_cons] at n
    by_cases e : k' = k
    · subst e
      rw [valV_pos (p := (k', w)) rfl] at h
      cases h
      unfold putK
      rw [if_pos (by simp), List.map_cons, map_outV n.1]; simp
    · rw [putK_cons_ne e, putK_same (by rw [valV_neg (p := (k', w)) e] at h; exact h) n.2]
/-- what stands at a place, and what the whole is when another thing stands there -/
theorem nav_rep : ∀ {q : List Ix} {d d0 : D} {v : V} {f : List Addr}, Rep K H d v f → getP q d = some d0 → ∃ v0 f0, navV H q v = some v0 ∧ Rep K H d0 v0 f0 ∧ (∀ b ∈ f0, b ∈ f) ∧ (f.Nodup → f0.Nodup) ∧
    (f.Nodup → ∀ (H' : Hp) d0' f0', (∀ b o, H b = some o → IsT o → H' b = some o) → (∀ b ∈ f, b ∉ f0 → ∀ o, H b = some o → H' b = some o) → Rep K H' d0' v0 f0' → f0'.Nodup → (∀ b ∈ f0', b ∈ f0 ∨ b ∉ f) →
      ∃ d' f', setP q d d0' = some d' ∧ Rep K H' d' v f' ∧ f'.Nodup ∧ ∀ b ∈ f', b ∈ f0' ∨ (b ∈ f ∧ b ∉ f0)) := by
  intro q
  induction q with
  | nil =>
    intro d d0 v f r e
    cases e
    exact ⟨v, f, rfl, r, fun _ h => h, fun h => h, fun _ H' d0' f0' _ _ r' n' _ => ⟨d0', f0', rfl, r', n', fun b hb => .inl hb⟩⟩
  | cons i q ih =>
    intro d d0 v f r e
    -- the common end: f = a :: (p ++ g ++ s)
    have fin : ∀ {a : Addr} {p g s f0 : List Addr}, (a :: (p ++ g ++ s)).Nodup → (∀ b ∈ f0, b ∈ g) → ∀ {f0' g' : List Addr}, (∀ b ∈ f0', b ∈ f0 ∨ b ∉ a :: (p ++ g ++ s)) → g'.Nodup → (∀ b ∈ g', b ∈ f0' ∨ (b ∈ g ∧ b ∉ f0)) →
        (a :: (p ++ g' ++ s)).Nodup ∧ ∀ b ∈ a :: (p ++ g' ++ s), b ∈ f0' ∨ (b ∈ a :: (p ++ g ++ s) ∧ b ∉ f0) := fun {a p g s f0} n hs {f0' g'} hf hn hg => by
      have n1 := List.nodup_cons.mp n
      obtain ⟨n2, n3, n4⟩ := List.nodup_append.mp n1.2
      obtain ⟨n5, n6, n7⟩ := List.nodup_append.mp n2
      have mg : ∀ b ∈ g', b ∈ g ∨ b ∉ a :: (p ++ g ++ s) := fun b hb => by
        rcases hg b hb with z | z
        · exact (hf b z).imp (hs b) id
        · exact .inl z.1
      have ga : a ∉ g' := fun z => by
        rcases mg a z with z | z
        · exact n1.1 (by simp [z])
        · exact z (by simp)
      have gp : ∀ x ∈ p, ∀ y ∈ g', x ≠ y := fun x hx y hy e => by
        subst e
        rcases mg x hy with z | z
        · exact n7 x hx x z rfl
        · exact z (by simp [hx])
      have gs : ∀ x ∈ g', ∀ y ∈ s, x ≠ y := fun x hx y hy e => by
        subst e
        rcases mg x hx with z | z
        · exact n4 x (List.mem_append_right _ z) x hy rfl
        · exact z (by simp [hy])
      refine ⟨List.nodup_cons.mpr ⟨fun z => ?_, List.nodup_append.mpr ⟨List.nodup_append.mpr ⟨n5, hn, gp⟩, n3, fun x hx y hy => ?_⟩⟩, fun b hb => ?_⟩
      · rcases List.mem_append.mp z with z | z
        · rcases List.mem_append.mp z with z | z
          · exact n1.1 (by simp [z])
          · exact ga z
        · exact n1.1 (by simp [z])
      · rcases List.mem_append.mp hx with z | z
        · exact n4 x (List.mem_append_left _ z) y hy
        · exact gs x z y hy
      · have other : b ∉ g → b ∈ a :: (p ++ g ++ s) → b ∈ f0' ∨ (b ∈ a :: (p ++ g ++ s) ∧ b ∉ f0) := fun h1 h2 => .inr ⟨h2, fun z => h1 (hs b z)⟩
        rcases List.mem_cons.mp hb with z | z
        · subst z; exact other (fun w => n1.1 (by simp [w])) (by simp)
        · rcases List.mem_append.mp z with z | z
          · rcases List.mem_append.mp z with z | z
            · exact other (fun w => n7 b z b w rfl) (by simp [z])
            · rcases hg b z with w | w
              · exact .inl w
              · exact .inr ⟨by simp [w.1], w.2⟩
          · exact other (fun w => n4 b (List.mem_append_right _ w) b z rfl) (by simp [z])
    cases i with
    | «at» j =>
      cases d with
      | lst ds =>
        unfold getP at e
        cases hd : ds[j]? with
        | none => rw [hd] at e; cases e
        | some dj =>
          rw [hd] at e
          cases r with
          | @lst a vs _ f1 hl rs =>
          obtain ⟨vj, p, g, s, h1, h2, h3, h4⟩ := rs.at hd
          subst h2
          obtain ⟨v0, f0, k1, k2, k3, k4, k5⟩ := ih h3 e
          have gn : (a :: (p ++ g ++ s)).Nodup → g.Nodup := fun n => (List.nodup_append.mp (List.nodup_append.mp (List.nodup_cons.mp n).2).1).2.1
          refine ⟨v0, f0, by unfold navV; rw [hl]; simp only [h1]; exact k1, k2, fun b hb => by have := k3 b hb; simp [this], fun n => k4 (gn n), fun n H' d0' f0' ht hk r' n' hb => ?_⟩
          have ng := gn n
          have nn := List.nodup_cons.mp n
          obtain ⟨m2, m3, m4⟩ := List.nodup_append.mp nn.2
          obtain ⟨m5, m6, m7⟩ := List.nodup_append.mp m2
          obtain ⟨dj', g', e1, e2, e3, e4⟩ := k5 ng H' d0' f0' ht (fun b hb' hn => hk b (by simp [hb']) hn) r' n' fun b hb' => (hb b hb').imp id fun z w => z (by simp [w])
          have keep : ∀ b, b ∈ p ∨ b ∈ s → ∀ o, H b = some o → H' b = some o := fun b hb' => by
            rcases hb' with z | z
            · exact hk b (by simp [z]) fun w => m7 b z b (k3 b w) rfl
            · exact hk b (by simp [z]) fun w => m4 b (List.mem_append_right _ (k3 b w)) b z rfl
          obtain ⟨x1, x2⟩ := fin n k3 hb e3 e4
          exact ⟨.lst (ds.set j dj'), a :: (p ++ g' ++ s), by unfold setP; rw [hd]; simp [e1], .lst (hk a (by simp) (fun w => nn.1 (by simp [k3 a w])) _ hl) (h4 H' dj' g' ht keep e2), x1, x2⟩
      | _ => simp [getP] at e
    | key k =>
      cases d with
      | dic kds =>
        unfold getP at e
        cases hd : valD kds k with
        | none => rw [hd] at e; cases e
        | some dj =>
          rw [hd] at e
          cases r with
          | @dic a kvs _ f1 hl nk rs =>
          obtain ⟨vj, p, g, s, h1, h2, h3, h4⟩ := rs.at nk hd
          subst h2
          obtain ⟨v0, f0, k1, k2, k3, k4, k5⟩ := ih h3 e
          have gn : (a :: (p ++ g ++ s)).Nodup → g.Nodup := fun n => (List.nodup_append.mp (List.nodup_append.mp (List.nodup_cons.mp n).2).1).2.1
          refine ⟨v0, f0, by unfold navV; rw [hl]; simp only [h1]; exact k1, k2, fun b hb => by have := k3 b hb; simp [this], fun n => k4 (gn n), fun n H' d0' f0' ht hk r' n' hb => ?_⟩
          have ng := gn n
          have nn := List.nodup_cons.mp n
          obtain ⟨m2, m3, m4⟩ := List.nodup_append.mp nn.2
          obtain ⟨m5, m6, m7⟩ := List.nodup_append.mp m2
          obtain ⟨dj', g', e1, e2, e3, e4⟩ := k5 ng H' d0' f0' ht (fun b hb' hn => hk b (by simp [hb']) hn) r' n' fun b hb' => (hb b hb').imp id fun z w => z (by simp [w])
          have keep : ∀ b, b ∈ p ∨ b ∈ s → ∀ o, H b = some o → H' b = some o := fun b hb' => by
            rcases hb' with z | z
            · exact hk b (by simp [z]) fun w => m7 b z b (k3 b w) rfl
            · exact hk b (by simp [z]) fun w => m4 b (List.mem_append_right _ (k3 b w)) b z rfl
          obtain ⟨x1, x2⟩ := fin n k3 hb e3 e4
          have r4 := h4 H' dj' g' vj ht keep e2
          rw [putK_same h1 (by rw [rs.keys]; exact nk)] at r4
          exact ⟨.dic (putD kds k dj'), a :: (p ++ g' ++ s), by unfold setP; rw [hd]; simp [e1], .dic (hk a (by simp) (fun w => nn.1 (by simp [k3 a w])) _ hl) (putD_nodup nk) r4, x1, x2⟩
      | _ => simp [getP] at e
    | fld k =>
      cases d with
      | obj tg Cn kds =>
        unfold getP at e
        cases hd : valD kds k with
        | none => rw [hd] at e; cases e
        | some dj =>
          rw [hd] at e
          cases r with
          | @obj _ _ a Ca dx kvs _ f1 hl hC nk rs htg =>
          obtain ⟨vj, p, g, s, h1, h2, h3, h4⟩ := rs.at nk hd
          subst h2
          obtain ⟨v0, f0, k1, k2, k3, k4, k5⟩ := ih h3 e
          have gn : (a :: (p ++ g ++ s)).Nodup → g.Nodup := fun n => (List.nodup_append.mp (List.nodup_append.mp (List.nodup_cons.mp n).2).1).2.1
          refine ⟨v0, f0, by unfold navV; rw [hl]; simp only [h1]; exact k1, k2, fun b hb => by have := k3 b hb; simp [this], fun n => k4 (gn n), fun n H' d0' f0' ht hk r' n' hb => ?_⟩
          have ng := gn n
          have nn := List.nodup_cons.mp n
          obtain ⟨m2, m3, m4⟩ := List.nodup_append.mp nn.2
          obtain ⟨m5, m6, m7⟩ := List.nodup_append.mp m2
          obtain ⟨dj', g', e1, e2, e3, e4⟩ := k5 ng H' d0' f0' ht (fun b hb' hn => hk b (by simp [hb']) hn) r' n' fun b hb' => (hb b hb').imp id fun z w => z (by simp [w])
          have keep : ∀ b, b ∈ p ∨ b ∈ s → ∀ o, H b = some o → H' b = some o := fun b hb' => by
            rcases hb' with z | z
            · exact hk b (by simp [z]) fun w => m7 b z b (k3 b w) rfl
            · exact hk b (by simp [z]) fun w => m4 b (List.mem_append_right _ (k3 b w)) b z rfl
          obtain ⟨x1, x2⟩ := fin n k3 hb e3 e4
          have r4 := h4 H' dj' g' vj ht keep e2
          rw [putK_same h1 (by rw [rs.keys]; exact nk)] at r4
          exact ⟨.obj tg Cn (putD kds k dj'), a :: (p ++ g' ++ s), by unfold setP; rw [hd]; simp [e1], .obj (hk a (by simp) (fun w => nn.1 (by simp [k3 a w])) _ hl) hC (putD_nodup nk) r4 htg, x1, x2⟩
      | _ => simp [getP] at e
end
end Cz
set_option maxHeartbeats 2000000
/-! Cz12: x[i].append(e), x[i] = e, x[i] += e and the like. -/
namespace Cz
open PySem PySem.Spec PyProof.Rows L2
/-- a place: the slot, the way from it, what stands there -/
abbrev SPh := Env → R (Nat × List Ix × D)
def locP (i : Nat) : SPh := fun ρ => match ρ[i]? with
  | some (.ow d) => .ok (i, [], d)
  | _ => .st
def stepD : D → D → Option (Ix × D)
  | .lst ds, .int n => (ixN ds.length n).bind fun j => ds[j]?.map fun d => (.at j, d)
  | .dic kvs, y => (keyD y).bind fun k => (valD kvs k).map fun d => (.key k, d)
  | _, _ => none
def idxP (p : SPh) (e : SE) : SPh := fun ρ => (p ρ).bind fun x => (e ρ).bind fun y => match stepD x.2.2 y.2 with
  | some (i, d) => .ok (x.1, x.2.1 ++ [i], d)
  | none => .st
/-- v stands there -/
def PhAt (ρ : Env) (σ : L2.St) (H : Hp) (x : Nat × List Ix × D) (v : V) : Prop := ∃ d vj, ρ[x.1]? = some (.ow d) ∧ σ[x.1]? = some (some vj) ∧ getP x.2.1 d = some x.2.2 ∧ navV H x.2.1 vj = some v
def tP (CA : String → Addr) (W : WX) (K : PySem.W.Frag) (s : SPh) : TE := fun σ H Q => ∃ A H0 F G ρ, SR K A H0 F G ρ σ H ∧ Post K CA W σ H (s ρ) fun x => ∀ v H', Same H H' → PhAt ρ σ H' x v → Q v H'
theorem getP_app : ∀ {q : List Ix} {d d0 : D} {i : Ix}, getP q d = some d0 → getP (q ++ [i]) d = getP [i] d0
  | [], d, d0, i, h => by cases h; rfl
  | .at j :: q, d, d0, i, h => by
    cases d with
    | lst ds =>
      simp only [List.cons_append, getP] at h ⊢
      cases hd : ds[j]? with
      | none => rw [hd] at h; cases h
      | some x =>
        rw [hd] at h
        exact getP_app (q := q) (d := x) h
    | _ => simp [getP] at h
  | .key k :: q, d, d0, i, h => by
    cases d with
    | dic ds =>
      simp only [List.cons_append, getP] at h ⊢
      cases hd : valD ds k with
      | none => rw [hd] at h; cases h
      | some x =>
        rw [hd] at h
        exact getP_app (q := q) (d := x) h
    | _ => simp [getP] at h
  | .fld k :: q, d, d0, i, h => by
    cases d with
    | obj t C ds =>
      simp only [List.cons_append, getP] at h ⊢
      cases hd : valD ds k with
      | none => rw [hd] at h; cases h
      | some x =>
        rw [hd] at h
        exact getP_app (q := q) (d := x) h
    | _ => simp [getP] at h
theorem navV_app {H : Hp} : ∀ {q : List Ix} {v w : V} {i : Ix}, navV H q v = some w → navV H (q ++ [i]) v = navV H [i] w
  | [], v, w, i, h => by cases h; rfl
  | .at j :: q, v, w, i, h => by
    cases v with
    | ref a =>
      simp only [List.cons_append, navV] at h ⊢
      cases hH : H a with
      | none => rw [hH] at h; cases h
      | some o =>
        rw [hH] at h
        cases o with
        | lst vs =>
          simp only at h ⊢
          cases hv : vs[j]? with
          | none => rw [hv] at h; cases h
          | some x => rw [hv] at h; exact navV_app (q := q) (v := x) h
        | _ => cases h
    | _ => cases h
  | .key k :: q, v, w, i, h => by
    cases v with
    | ref a =>
      simp only [List.cons_append, navV] at h ⊢
      cases hH : H a with
      | none => rw [hH] at h; cases h
      | some o =>
        rw [hH] at h
        cases o with
        | dK kvs =>
          simp only at h ⊢
          cases hv : valV kvs k with
          | none => rw [hv] at h; cases h
          | some x => rw [hv] at h; exact navV_app (q := q) (v := x) h
        | _ => cases h
    | _ => cases h
  | .fld k :: q, v, w, i, h => by
    cases v with
    | ref a =>
      simp only [List.cons_append, navV] at h ⊢
      cases hH : H a with
      | none => rw [hH] at h; cases h
      | some o =>
        rw [hH] at h
        cases o with
        | ins Ca dx kvs =>
          simp only at h ⊢
          cases hv : valV kvs k with
          | none => rw [hv] at h; cases h
          | some x => rw [hv] at h; exact navV_app (q := q) (v := x) h
        | _ => cases h
    | _ => cases h
section
variable {K : PySem.W.Frag} {A : Addr → Prop} {H0 Hb H : Hp} {F : Nat → List Addr} {G : List (D × V)} {ρ : Env} {σ : L2.St}
theorem PhAt.same {H' : Hp} {x : Nat × List Ix × D} {v : V} (h : PhAt ρ σ H x v) (s : Same H H') : PhAt ρ σ H' x v := let ⟨d, vj, h1, h2, h3, h4⟩ := h; ⟨d, vj, h1, h2, h3, navV_same s h4⟩
/-- the whole behind a change at a place -/
def putAt (ρ : Env) (x : Nat × List Ix × D) (d0' : D) : Option Env := (setP x.2.1 ((slD ρ[x.1]?).getD .non) d0').map fun d' => (inv x.1 ρ).set x.1 (.ow d')
/-- what stands at a place, and how it may be written -/
theorem PhAt.open {x : Nat × List Ix × D} {v : V} (sr : SR K A H0 F G ρ σ Hb) (s : Same Hb H) (h : PhAt ρ σ H x v) : ∃ f0, Rep K H x.2.2 v f0 ∧ f0.Nodup ∧ (∀ b ∈ f0, Hb b ≠ none ∧ Mu (H b)) ∧
    ∀ (a : Addr) (o : HO) (d0' : D) (f0' : List Addr), v = .ref a → a ∈ f0 → L2.Mut (some o) → Rep K (upd H a o) d0' v f0' → f0'.Nodup → (∀ b ∈ f0', b ∈ f0 ∨ Hb b = none) → (∀ b ∈ f0', Mu ((upd H a o) b)) →
      ∃ ρ' F', putAt ρ x d0' = some ρ' ∧ SR K A H0 F' G ρ' σ (upd H a o) := by
  have sr1 := sr.same s
  obtain ⟨d, vj, h1, h2, h3, h4⟩ := h
  obtain ⟨vj', h5, rj⟩ := sr1.slo _ d h1
  rw [h2] at h5; cases h5
  obtain ⟨v0, f0, k1, k2, k3, k4, k5⟩ := nav_rep rj h3
  rw [h4] at k1; cases k1
  have own := sr1.own x.1
  refine ⟨f0, k2, k4 own.1, fun b hb => ⟨((sr.own x.1).2 b (k3 b hb)).2.ne, (own.2 b (k3 b hb)).2⟩, fun a o d0' f0' ea ha hm r nf hf hmu => ?_⟩
  subst ea
  have hne : a ∈ F x.1 := k3 a ha
  have mua := (own.2 a hne).2
  have nt : ∀ b ob, H b = some ob → IsT ob → (upd H a o) b = some ob := fun b ob e t => by
    by_cases z : b = a
    · subst z
      rw [e] at mua
      have := mua.m
      cases ob <;> first | exact t.elim | exact this.elim
    · rw [upd_ne z]; exact e
  obtain ⟨d', f', e1, e2, e3, e4⟩ := k5 own.1 (upd H a o) d0' f0' nt (fun b hb hn ob e => by
    have hba : b ≠ a := fun z => hn (z ▸ ha)
    rw [upd_ne hba]; exact e) r nf (fun b hb => (hf b hb).imp id fun z w => ((sr.own x.1).2 b w).2.ne z)
  refine ⟨(inv x.1 ρ).set x.1 (.ow d'), updF F x.1 f', by unfold putAt; rw [h1]; simp only [slD, Option.getD_some]; rw [e1]; rfl, ?_⟩
  refine sr.mutS s hne hm h1 h2 e2 e3 (fun b hb => ?_) fun b hb => ?_
  · rcases e4 b hb with z | z
    · exact (hf b z).imp (k3 b) id
    · exact .inl z.1
  · rcases e4 b hb with z | z
    · exact hmu b z
    · have hba : b ≠ a := fun w => z.2 (w ▸ ha)
      rw [upd_ne hba]; exact (own.2 b z.1).2
end
/-! ### methods that change their object -/
/-- the change: what is there, the arguments; what is told (nothing with nodes), what is there then -/
abbrev MOp := D → List KD → Option (D × D)
inductive MT where
  | l | d
def MT.T : MT → String
  | .l => "list"
  | .d => "dict"
def MT.ok : MT → D → Bool
  | .l, .lst _ => true
  | .d, .dic _ => true
  | _, _ => false
theorem MT.ty {K : PySem.W.Frag} {H : Hp} {T : MT} {d0 : D} {v : V} {f0 : List Addr} (r : Rep K H d0 v f0) (h : T.ok d0 = true) : tyV K T.T v H := by
  cases T with
  | l =>
    cases d0 with
    | lst ds => cases r with | lst hl rs => exact .inl ⟨rfl, _, .of hl⟩
    | _ => cases h
  | d =>
    cases d0 with
    | dic ds => cases r with | dic hl _ rs => exact .inr (.inr (.inl ⟨rfl, .inl ⟨_, hl⟩⟩))
    | _ => cases h
def MtOk (K : PySem.W.Frag) (op : MOp) (r : V → List V → Hp → VK → Prop) : Prop :=
  ∀ {A : Addr → Prop} {H0 Hb H : Hp} {F : Nat → List Addr} {d0 : D} {v : V} {f0 g : List Addr} {xs : List KD} {vs : List V} {y : D × D} {Q : VK}, Rep K H d0 v f0 → f0.Nodup → (∀ b ∈ f0, Hb b ≠ none ∧ Mu (H b)) → Reps K H (xs.map (·.2)) vs g → KOk A H0 F Hb H (jn xs) g → op d0 xs = some y →
    (∀ (a : Addr) (o : HO) (f0' : List Addr) (w : V), v = .ref a → a ∈ f0 → L2.Mut (some o) → Rep K (upd H a o) y.2 v f0' → f0'.Nodup → (∀ b ∈ f0', b ∈ f0 ∨ Hb b = none) → (∀ b ∈ f0', Mu ((upd H a o) b)) → Rep K (upd H a o) y.1 w [] → Q w (upd H a o)) → r v vs H Q
def mtS (T : MT) (p : SPh) (s : SA) (op : MOp) : SS := fun ρ => (p ρ).out ρ fun x => if T.ok x.2.2 = true then (s ρ).out ρ fun xs => match op x.2.2 xs with
  | some y => (match putAt ρ x y.2 with
    | some ρ' => .nx ρ'
    | none => .st)
  | none => .st else .st
/-- x = y.pop() -/
def mtA (t : Tgt) (T : MT) (p : SPh) (s : SA) (op : MOp) : SS := fun ρ => (p ρ).out ρ fun x => if T.ok x.2.2 = true then (s ρ).out ρ fun xs => match op x.2.2 xs with
  | some y => (match putAt ρ x y.2 with
    | some ρ' => (match t .own y.1 ρ' with
      | some ρ2 => .nx ρ2
      | none => .st)
    | none => .st)
  | none => .st else .st
section
variable {X : Cx} {CA : String → Addr} {W : WX} {pos pos' p1 p2 p3 : Pos} {a b e o : Expr} {es : List Expr} {se : SE} {sp : SPh} {s : SA} {op : MOp} {T id : String} {name : Str} {r : V → List V → Hp → VK → Prop}
theorem p_loc (i : Nat) {x : Str} (hN : X.N[i]? = some x := by rfl) (hv : Vis X.env.scope x := by first | exact Or.inl rfl | exact Or.inr (Or.inl rfl) | exact Or.inr (Or.inr rfl)) (hd : (x == ("__debug__" : Str)) = false := by decide)
    (hcd : (x == ("__classdict__" : Str)) = false := by decide) : PE X (.Name x pos) (tP CA W X.K (locP i)) := by
  refine peI (pe_var hN hv hd hcd) fun σ H Q ⟨A, H0, F, G, ρ, sr, h⟩ => ?_
  unfold locP at h
  cases e : ρ[i]? with
  | none => rw [e] at h; exact h.elim
  | some sl =>
    rw [e] at h
    cases sl with
    | ow d =>
      obtain ⟨v, hv, r⟩ := sr.slo i d e
      exact ⟨v, hv, h v H (Same.refl H) ⟨d, v, e, hv, rfl, rfl⟩⟩
    | _ => exact h.elim
theorem p_idx (hu : X.A.units + 65 < cLine) (ha : PE X a (tP CA W X.K sp)) (hb : PE X b (tE X.K CA W se)) (hs : PlainIx b := by exact fun _ _ => rfl) : PE X (.Subscript a b pos) (tP CA W X.K (idxP sp se)) := by
  refine peI (pe_ix (ix_any (by omega)) ha hb hs) fun σ H Q ⟨A, H0, F, G, ρ, sr, h⟩ => ?_
  refine ⟨A, H0, F, G, ρ, sr, h.bind fun ⟨j, q, d0⟩ h1 => ?_⟩
  intro v1 H1 s1 at1
  refine ⟨A, H0, F, G, ρ, sr.same s1, (h1.later s1).bind fun ⟨k2, d2⟩ h2 => ?_⟩
  intro v2 H2 f2 s2 r2 o2
  have at2 := at1.same s2
  obtain ⟨f0, r0, _, _, _⟩ := at2.open (sr.same s1) s2
  obtain ⟨dw, vj, e1, e2, e3, e4⟩ := at2
  cases d0 with
  | lst ds =>
    cases d2 with
    | int n =>
      cases hi : ixN ds.length n with
      | none => simp only [stepD, hi] at h2; exact h2.elim
      | some m =>
        cases hd : ds[m]? with
        | none => simp only [stepD, hi, Option.bind_some, hd] at h2; exact h2.elim
        | some dm =>
          simp only [stepD, hi, Option.bind_some, hd, Option.map_some] at h2
          cases r0 with
          | @lst a0 vs _ f1 hl rs =>
          cases r2
          obtain ⟨vm, g, hv, _⟩ := rs.get hd
          refine .inl (.inl ⟨a0, vs, n, vm, rfl, rfl, .of hl, by unfold atI; rw [← rs.length, hi]; exact hv, h2 vm H2 (s1.trans s2) ⟨dw, vj, e1, e2, ?_, ?_⟩⟩)
          · rw [getP_app e3]
            simp [getP, hd]
          · rw [navV_app e4]
            simp [navV, hl, hv]
    | _ => exact h2.elim
  | dic kds =>
    cases hk : keyD d2 with
    | none => simp only [stepD, hk] at h2; exact h2.elim
    | some k =>
      cases hd : valD kds k with
      | none => simp only [stepD, hk, Option.bind_some, hd] at h2; exact h2.elim
      | some dm =>
        simp only [stepD, hk, Option.bind_some, hd, Option.map_some] at h2
        cases r0 with
        | @dic a0 kvs _ f1 hl nk rs =>
        have ev := keyD_rep r2 hk
        subst ev
        obtain ⟨vm, _, _, _, hv, _⟩ := rs.at nk hd
        refine .inr ⟨a0, vm, rfl, hv ▸ DGet.k hl, h2 vm H2 (s1.trans s2) ⟨dw, vj, e1, e2, ?_, ?_⟩⟩
        · rw [getP_app e3]
          simp [getP, hd]
        · rw [navV_app e4]
          simp [navV, hl, hv]
  | _ => cases d2 <;> exact h2.elim
/-- o.m(e, ..): what is told goes to k -/
theorem mt_core {T : MT} (hok : MtOk X.K op r) {A : Addr → Prop} {H0 H : Hp} {F : Nat → List Addr} {G : List (D × V)} {ρ : Env} {σ : L2.St} {De : Ends} (sr : SR X.K A H0 F G ρ σ H) {R' : V → Hp → Prop} {k : D → Env → Out}
    (h : OutOk X.K CA W A H0 G De ((sp ρ).out ρ fun x => if T.ok x.2.2 = true then (s ρ).out ρ fun xs => match op x.2.2 xs with
      | some y => (match putAt ρ x y.2 with
        | some ρ' => k y.1 ρ'
        | none => .st)
      | none => .st else .st)) (hR : ∀ w H' F' ρ' d, Rep X.K H' d w [] → SR X.K A H0 F' G ρ' σ H' → OutOk X.K CA W A H0 G De (k d ρ') → R' w H') : tBM X.K T.T r (tP CA W X.K sp) (tA X.K CA W s) σ H R' := by
  refine ⟨A, H0, F, G, ρ, sr, (lift h sr).imp fun x _ q v H1 s1 at1 => ?_⟩
  by_cases hT : T.ok x.2.2 = true
  · have q : OutOk X.K CA W A H0 G De (if T.ok x.2.2 = true then (s ρ).out ρ fun xs => match op x.2.2 xs with
      | some y => (match putAt ρ x y.2 with
        | some ρ' => k y.1 ρ'
        | none => .st)
      | none => .st else .st) := q
    rw [if_pos hT] at q
    obtain ⟨f0, r0, _⟩ := at1.open sr s1
    refine ⟨MT.ty r0 hT, A, H0, F, G, ρ, sr.same s1, (lift q (sr.same s1)).imp fun xs _ q2 vs H2 g s2 rs os => ?_⟩
    cases ho : op x.2.2 xs with
    | none => simp only [ho] at q2; exact q2.elim
    | some y =>
      simp only [ho] at q2
      have at2 := at1.same s2
      obtain ⟨f0, r0, n0, m0, wr⟩ := at2.open (sr.same s1) s2
      refine hok r0 n0 m0 rs os ho fun a o f0' w ea ha hm r' nf hf hmu rw' => ?_
      obtain ⟨ρ', F', e1, sr'⟩ := wr a o y.2 f0' ea ha hm r' nf hf hmu
      rw [e1] at q2
      exact hR w _ F' ρ' y.1 rw' sr' q2
  · have q : OutOk X.K CA W A H0 G De (if T.ok x.2.2 = true then (s ρ).out ρ fun xs => match op x.2.2 xs with
      | some y => (match putAt ρ x y.2 with
        | some ρ' => k y.1 ρ'
        | none => .st)
      | none => .st else .st) := q
    rw [if_neg hT] at q
    exact q.elim
variable {T : MT}
theorem mt0_core (hok : MtOk X.K op r) {A : Addr → Prop} {H0 H : Hp} {F : Nat → List Addr} {G : List (D × V)} {ρ : Env} {σ : L2.St} {De : Ends} (sr : SR X.K A H0 F G ρ σ H) {R' : V → Hp → Prop} {k : D → Env → Out}
    (h : OutOk X.K CA W A H0 G De ((sp ρ).out ρ fun x => if T.ok x.2.2 = true then (nilA ρ).out ρ fun xs => match op x.2.2 xs with
      | some y => (match putAt ρ x y.2 with
        | some ρ' => k y.1 ρ'
        | none => .st)
      | none => .st else .st)) (hR : ∀ w H' F' ρ' d, Rep X.K H' d w [] → SR X.K A H0 F' G ρ' σ H' → OutOk X.K CA W A H0 G De (k d ρ') → R' w H') : tBM0 X.K T.T r (tP CA W X.K sp) σ H R' := by
  refine ⟨A, H0, F, G, ρ, sr, (lift h sr).imp fun x _ q v H1 s1 at1 => ?_⟩
  by_cases hT : T.ok x.2.2 = true
  · have q : OutOk X.K CA W A H0 G De (if T.ok x.2.2 = true then (nilA ρ).out ρ fun xs => match op x.2.2 xs with
      | some y => (match putAt ρ x y.2 with
        | some ρ' => k y.1 ρ'
        | none => .st)
      | none => .st else .st) := q
    rw [if_pos hT] at q
    have q2 : OutOk X.K CA W A H0 G De (match op x.2.2 [] with
      | some y => (match putAt ρ x y.2 with
        | some ρ' => k y.1 ρ'
        | none => .st)
      | none => .st) := q
    obtain ⟨f0, r0, n0, m0, wr⟩ := at1.open sr s1
    refine ⟨MT.ty r0 hT, ?_⟩
    cases ho : op x.2.2 [] with
    | none => simp only [ho] at q2; exact q2.elim
    | some y =>
      simp only [ho] at q2
      refine hok (A := A) (H0 := H0) (F := F) r0 n0 m0 .nil (KOk.nil _) ho fun a o f0' w ea ha hm r' nf hf hmu rw' => ?_
      obtain ⟨ρ', F', e1, sr'⟩ := wr a o y.2 f0' ea ha hm r' nf hf hmu
      rw [e1] at q2
      exact hR w _ F' ρ' y.1 rw' sr' q2
  · have q : OutOk X.K CA W A H0 G De (if T.ok x.2.2 = true then (nilA ρ).out ρ fun xs => match op x.2.2 xs with
      | some y => (match putAt ρ x y.2 with
        | some ρ' => k y.1 ρ'
        | none => .st)
      | none => .st else .st) := q
    rw [if_neg hT] at q
    exact q.elim
/-- o.m(e, ..) -/
theorem s_mt (pa : PlainAttrs T.T) (slot : Slot T.T name id) (hty : typeOf (.builtin id) = pure (.type "method_descriptor")) (hm : MtR X id r) (hok : MtOk X.K op r) (ho : PE X o (tP CA W X.K sp)) (ha : PA X (e :: es) (tA X.K CA W s))
    (hs : swapsWith (.Call (.Attribute o name p2) (e :: es) [] p3) none pos.line X.env = pure false := by rfl) (hbase : attributeBase o name X.env (eval o X.env) = eval o X.env := by rfl)
    (hfew : ((backTo p3 (starEach (e :: es) X.env)).all (fun x => !x.1) && (backToKw p3 (keywordEach [] X.env)).all (fun x => x.1.isSome) && decide ((e :: es).length + ([] : List Keyword).length + (if ([] : List Keyword).isEmpty then 0 else 1) < 30)) = true := by rfl)
    (hline : (p2.endLine == p3.line) = true := by rfl) (hst : starEach (e :: es) X.env = (false, eval e X.env) :: starEach es X.env := by rfl) (hplain : (backTo p3 (starEach es X.env)).any (·.1) = false := by rfl) :
    PS X (.Expr (.Call (.Attribute o name p2) (e :: es) [] p3) pos) (tS X.K CA W (mtS T sp s op)) := by
  refine psI (ps_expr (pe_bm pa slot hty hm ho ha hbase hfew hline hst hplain) hs) fun D σ H ⟨A, H0, F, G, ρ, sr, h⟩ => ?_
  exact mt_core (k := fun _ ρ' => .nx ρ') hok sr h fun w H' F' ρ' d _ sr' q => q σ H' F' sr'
theorem s_mt0 (pa : PlainAttrs T.T) (slot : Slot T.T name id) (hty : typeOf (.builtin id) = pure (.type "method_descriptor")) (hm : MtR X id r) (hok : MtOk X.K op r) (ho : PE X o (tP CA W X.K sp))
    (hs : swapsWith (.Call (.Attribute o name p2) [] [] p3) none pos.line X.env = pure false := by rfl) (hbase : attributeBase o name X.env (eval o X.env) = eval o X.env := by rfl) (hline : (p2.endLine == p3.line) = true := by rfl) :
    PS X (.Expr (.Call (.Attribute o name p2) [] [] p3) pos) (tS X.K CA W (mtS T sp nilA op)) := by
  refine psI (ps_expr (pe_bm0 pa slot hty hm ho hbase hline) hs) fun D σ H ⟨A, H0, F, G, ρ, sr, h⟩ => ?_
  exact mt0_core (k := fun _ ρ' => .nx ρ') hok sr h fun w H' F' ρ' d _ sr' q => q σ H' F' sr'
/-- x = o.m(e, ..), x = o.m() -/
theorem asg_tail {tt : Tgt} {A : Addr → Prop} {H0 H' : Hp} {F' : Nat → List Addr} {G : List (D × V)} {ρ' : Env} {σ : L2.St} {De : Ends} {w : V} {d : D} {sl : List Nat} (r : Rep X.K H' d w []) (sr : SR X.K A H0 F' G ρ' σ H')
    (q : OutOk X.K CA W A H0 G De (match tt .own d ρ' with
      | some ρ2 => .nx ρ2
      | none => .st)) : tG X.K sl tt w σ H' De.nx := by
  refine ⟨A, H0, H', F', G, ρ', .own, d, [], sr, Same.refl _, r, KOk.nil _, ?_⟩
  cases ht : tt .own d ρ' with
  | none => rw [ht] at q; exact q.elim
  | some ρ2 => rw [ht] at q; exact fun σ' F2 p => q σ' H' F2 p.sr
theorem s_mtA {tg : Expr} {tt : Tgt} {sl : List Nat} (pa : PlainAttrs T.T) (slot : Slot T.T name id) (hty : typeOf (.builtin id) = pure (.type "method_descriptor")) (hm : MtR X id r) (hok : MtOk X.K op r) (ho : PE X o (tP CA W X.K sp)) (ha : PA X (e :: es) (tA X.K CA W s)) (hg : PG X tg (tG X.K sl tt))
    (hs : swapsWithSole [tg] (.Call (.Attribute o name p2) (e :: es) [] p3) pos.line X.env = pure false := by rfl) (hw : swappedStores [tg] (.Call (.Attribute o name p2) (e :: es) [] p3) X.env = pure none := by rfl) (h1 : (assignEach [tg] X.env).map (·.2) = [assign tg X.env] := by rfl)
    (hbase : attributeBase o name X.env (eval o X.env) = eval o X.env := by rfl)
    (hfew : ((backTo p3 (starEach (e :: es) X.env)).all (fun x => !x.1) && (backToKw p3 (keywordEach [] X.env)).all (fun x => x.1.isSome) && decide ((e :: es).length + ([] : List Keyword).length + (if ([] : List Keyword).isEmpty then 0 else 1) < 30)) = true := by rfl)
    (hline : (p2.endLine == p3.line) = true := by rfl) (hst : starEach (e :: es) X.env = (false, eval e X.env) :: starEach es X.env := by rfl) (hplain : (backTo p3 (starEach es X.env)).any (·.1) = false := by rfl) :
    PS X (.Assign [tg] (.Call (.Attribute o name p2) (e :: es) [] p3) pos) (tS X.K CA W (mtA tt T sp s op)) := by
  refine psI (ps_asg (pe_bm pa slot hty hm ho ha hbase hfew hline hst hplain) hg hs hw h1) fun D σ H ⟨A, H0, F, G, ρ, sr, h⟩ => ?_
  exact mt_core (k := fun d ρ' => match tt .own d ρ' with | some ρ2 => .nx ρ2 | none => .st) hok sr h fun w H' F' ρ' d r' sr' q => asg_tail r' sr' q
theorem s_mtA0 {tg : Expr} {tt : Tgt} {sl : List Nat} (pa : PlainAttrs T.T) (slot : Slot T.T name id) (hty : typeOf (.builtin id) = pure (.type "method_descriptor")) (hm : MtR X id r) (hok : MtOk X.K op r) (ho : PE X o (tP CA W X.K sp)) (hg : PG X tg (tG X.K sl tt))
    (hs : swapsWithSole [tg] (.Call (.Attribute o name p2) [] [] p3) pos.line X.env = pure false := by rfl) (hw : swappedStores [tg] (.Call (.Attribute o name p2) [] [] p3) X.env = pure none := by rfl) (h1 : (assignEach [tg] X.env).map (·.2) = [assign tg X.env] := by rfl)
    (hbase : attributeBase o name X.env (eval o X.env) = eval o X.env := by rfl) (hline : (p2.endLine == p3.line) = true := by rfl) :
    PS X (.Assign [tg] (.Call (.Attribute o name p2) [] [] p3) pos) (tS X.K CA W (mtA tt T sp nilA op)) := by
  refine psI (ps_asg (pe_bm0 pa slot hty hm ho hbase hline) hg hs hw h1) fun D σ H ⟨A, H0, F, G, ρ, sr, h⟩ => ?_
  exact mt0_core (k := fun d ρ' => match tt .own d ρ' with | some ρ2 => .nx ρ2 | none => .st) hok sr h fun w H' F' ρ' d r' sr' q => asg_tail r' sr' q
end
end Cz
set_option maxHeartbeats 2000000
/-! Cz13: append, extend, insert, pop, reverse; x[i] = e, x[i] op= e; index, len(set(..)), sorted. -/
namespace Cz
open PySem PySem.Spec PyProof.Rows L2
def opApp : MOp := fun d xs => match d, xs with
  | .lst ds, [x] => if okIn x.1 [x.2] = true ∧ ds.length < LIM then some (.non, .lst (ds ++ [x.2])) else none
  | _, _ => none
def opExt : MOp := fun d xs => match d, xs with
  | .lst ds, [(k, .lst es)] => if okIn k es = true ∧ ds.length + es.length ≤ LIM then some (.non, .lst (ds ++ es)) else none
  | _, _ => none
def opIns : MOp := fun d xs => match d, xs with
  | .lst ds, [(_, .int i), x] => if okIn x.1 [x.2] = true ∧ ds.length < LIM ∧ (0 ≤ i ∧ i ≤ 16777216) then some (.non, .lst (ds.take i.toNat ++ [x.2] ++ ds.drop i.toNat)) else none
  | _, _ => none
def opPopI : MOp := fun d xs => match d, xs with
  | .lst ds, [(_, .int i)] => (ixN ds.length i).bind fun j => ds[j]?.bind fun x => if noL x = true ∧ ds.length ≤ LIM then some (x, .lst (ds.eraseIdx j)) else none
  | _, _ => none
def opPop : MOp := fun d xs => match d, xs with
  | .lst ds, [] => ds[ds.length - 1]?.bind fun x => if noL x = true then some (x, .lst ds.dropLast) else none
  | _, _ => none
def opRev : MOp := fun d xs => match d, xs with
  | .lst ds, [] => some (.non, .lst ds.reverse)
  | _, _ => none
section
variable {K : PySem.W.Frag} {H Hb : Hp}
theorem Reps.eraseIdx : ∀ {ds : List D} {vs : List V} {f : List Addr} (j : Nat), Reps K H ds vs f → ∃ g, Reps K H (ds.eraseIdx j) (vs.eraseIdx j) g ∧ (∀ b ∈ g, b ∈ f) ∧ (f.Nodup → g.Nodup)
  | _, _, _, _, .nil => ⟨[], .nil, by simp, by simp⟩
  | _, _, _, 0, .cons (f := f) (g := g) r t => ⟨g, t, fun b hb => List.mem_append_right _ hb, fun n => (List.nodup_append.mp n).2.1⟩
  | _, _, _, j + 1, .cons (f := f) r t => by
    obtain ⟨g, h1, h2, h3⟩ := Reps.eraseIdx j t
    refine ⟨f ++ g, .cons r h1, fun b hb => ?_, fun n => ?_⟩
    · rcases List.mem_append.mp hb with z | z
      · exact List.mem_append_left _ z
      · exact List.mem_append_right _ (h2 b z)
    · obtain ⟨n1, n2, n3⟩ := List.nodup_append.mp n
      exact List.nodup_append.mpr ⟨n1, h3 n2, fun a ha b hb => n3 a ha b (h2 b hb)⟩
theorem Reps.reverse : ∀ {ds : List D} {vs : List V} {f : List Addr}, Reps K H ds vs f → ∃ g, Reps K H ds.reverse vs.reverse g ∧ (∀ b ∈ g, b ∈ f) ∧ (f.Nodup → g.Nodup)
  | _, _, _, .nil => ⟨[], .nil, by simp, by simp⟩
  | _, _, _, .cons (d := d) (v := v) (f := f) r t => by
    obtain ⟨g, h1, h2, h3⟩ := Reps.reverse t
    have one : Reps K H [d] [v] f := by
      have := Reps.cons r (Reps.nil (K := K) (H := H))
      rw [List.append_nil] at this
      exact this
    refine ⟨g ++ f, by rw [List.reverse_cons, List.reverse_cons]; exact h1.app one, fun b hb => ?_, fun n => ?_⟩
    · rcases List.mem_append.mp hb with z | z
      · exact List.mem_append_right _ (h2 b z)
      · exact List.mem_append_left _ z
    · obtain ⟨n1, n2, n3⟩ := List.nodup_append.mp n
      exact List.nodup_append.mpr ⟨h3 n2, n1, fun a ha b hb e => n3 b hb a (h2 a ha) e.symm⟩
theorem Reps.dropLast : ∀ {ds : List D} {vs : List V} {f : List Addr}, Reps K H ds vs f → ∃ g, Reps K H ds.dropLast vs.dropLast g ∧ (∀ b ∈ g, b ∈ f) ∧ (f.Nodup → g.Nodup) := fun {ds vs f} r => by
  rw [List.dropLast_eq_take, List.dropLast_eq_take, ← r.length]
  exact r.take _
/-- a list's new items -/
theorem lst_put {a : Addr} {vs vs' : List V} {ds' : List D} {f1 g : List Addr} (hl : H a = some (.lst vs)) (nf : (a :: f1).Nodup) (m : ∀ b ∈ a :: f1, Hb b ≠ none ∧ Mu (H b)) (r : Reps K H ds' vs' g) (ng : g.Nodup) (hg : ∀ b ∈ g, b ∈ f1 ∨ (Hb b = none ∧ Mu (H b))) :
    Rep K (upd H a (.lst vs')) (.lst ds') (.ref a) (a :: g) ∧ (a :: g).Nodup ∧ (∀ b ∈ a :: g, b ∈ a :: f1 ∨ Hb b = none) ∧ ∀ b ∈ a :: g, Mu ((upd H a (.lst vs')) b) := by
  have n1 := List.nodup_cons.mp nf
  have na : ∀ b ∈ g, b ≠ a := fun b hb e => by
    rcases hg b hb with z | z
    · exact n1.1 (e ▸ z)
    · exact (m a List.mem_cons_self).1 (e ▸ z.1)
  have nt : ∀ b o, H b = some o → IsT o → (upd H a (.lst vs')) b = some o := fun b o e t => by
    by_cases z : b = a
    · subst z; rw [hl] at e; cases e; exact t.elim
    · rw [upd_ne z]; exact e
  refine ⟨.lst upd_same (r.frame nt fun b hb o e => by rw [upd_ne (na b hb)]; exact e), List.nodup_cons.mpr ⟨fun z => na a z rfl, ng⟩, fun b hb => ?_, fun b hb => ?_⟩
  · rcases List.mem_cons.mp hb with z | z
    · exact .inl (by simp [z])
    · exact (hg b z).imp (fun w => List.mem_cons_of_mem _ w) (·.1)
  · by_cases z : b = a
    · subst z; exact ⟨by rw [upd_same]; trivial⟩
    · rw [upd_ne z]
      rcases List.mem_cons.mp hb with w | w
      · exact absurd w z
      · exact (hg b w).elim (fun w => (m b (List.mem_cons_of_mem _ w)).2) (·.2)
theorem ok_app : MtOk K opApp rAppend := by
  intro A H0 Hb H F d0 v f0 g xs vs y Q r0 n0 m0 rs os ho k
  unfold opApp at ho
  split at ho
  · rename_i ds x
    split at ho
    · rename_i hc
      cases ho
      cases r0 with
      | @lst a vs0 _ f1 hl q0 =>
      have os' : KOk A H0 F Hb H (nk x.1 x.2) g := by rw [← jn_one']; exact os
      obtain ⟨w, rfl, rw'⟩ := rs.one (d := x.2) rfl
      obtain ⟨n1, m1⟩ := okIn_ok hc.1 rs (KOk.nk' rw' os')
      have n2 := List.nodup_cons.mp n0
      have dis : ∀ b ∈ f1, ∀ c ∈ g, b ≠ c := fun b hb c hc' e => (m0 b (List.mem_cons_of_mem _ hb)).1 (e ▸ (m1 c hc').1)
      obtain ⟨e1, e2, e3, e4⟩ := lst_put (Hb := Hb) hl n0 m0 (q0.app rs) (List.nodup_append.mpr ⟨n2.2, n1, dis⟩) fun b hb => (List.mem_append.mp hb).imp id fun z => m1 b z
      exact ⟨a, vs0, w, rfl, rfl, hl, by rw [← lim_eq, ← q0.length]; exact hc.2, k a _ _ .non rfl List.mem_cons_self trivial e1 e2 e3 e4 .non⟩
    · cases ho
  · cases ho
theorem ok_ext : MtOk K opExt rExtend := by
  intro A H0 Hb H F d0 v f0 g xs vs y Q r0 n0 m0 rs os ho k
  unfold opExt at ho
  split at ho
  · rename_i ds kk es
    split at ho
    · rename_i hc
      cases ho
      cases r0 with
      | @lst a vs0 _ f1 hl q0 =>
      have os' : KOk A H0 F Hb H (nk kk (.lst es)) g := by
        have := os
        rw [jn_one'] at this
        exact this
      obtain ⟨w, rfl, rw'⟩ := rs.one (d := .lst es) rfl
      have os2 := KOk.nk' rw' os'
      cases rw' with
      | @lst b zs _ ge hb qe =>
      have hge : ge.Nodup ∧ ∀ c ∈ ge, Hb c = none ∧ Mu (H c) := by
        have os3 : KOk A H0 F Hb H kk ge := os2.sub (fun c hc' => List.mem_cons_of_mem _ hc') fun n => (List.nodup_cons.mp n).2
        exact okIn_ok hc.1 qe os3
      have n2 := List.nodup_cons.mp n0
      have dis : ∀ b ∈ f1, ∀ c ∈ ge, b ≠ c := fun b hb c hc' e => (m0 b (List.mem_cons_of_mem _ hb)).1 (e ▸ (hge.2 c hc').1)
      obtain ⟨e1, e2, e3, e4⟩ := lst_put (Hb := Hb) hl n0 m0 (q0.app qe) (List.nodup_append.mpr ⟨n2.2, hge.1, dis⟩) fun b hb => (List.mem_append.mp hb).imp id fun z => hge.2 b z
      exact ⟨a, b, vs0, zs, rfl, rfl, hl, hb, by rw [← lim_eq, ← q0.length, ← qe.length]; exact hc.2, k a _ _ .non rfl List.mem_cons_self trivial e1 e2 e3 e4 .non⟩
    · cases ho
  · cases ho
theorem ok_ins : MtOk K opIns (fun x vs H Q => ∃ (l : Addr) (xs : List V) (i : Int) (y : V), x = .ref l ∧ vs = [.int i, y] ∧ H l = some (.lst xs) ∧ xs.length < sizeLine ∧ 0 ≤ i ∧ i < 2 ^ 63 ∧ Q .non (upd H l (.lst (xs.take i.toNat ++ [y] ++ xs.drop i.toNat)))) := by
  intro A H0 Hb H F d0 v f0 g xs vs y Q r0 n0 m0 rs os ho k
  unfold opIns at ho
  split at ho
  · rename_i ds kk i x
    split at ho
    · rename_i hc
      cases ho
      cases r0 with
      | @lst a vs0 _ f1 hl q0 =>
      obtain ⟨wi, w, gi, gw, rfl, rfl, ri, rw'⟩ := Reps.two (d := .int i) (d' := x.2) rs
      cases ri
      have os' : KOk A H0 F Hb H (nk x.1 x.2) gw := by
        have : jn [(kk, D.int i), x] = nk x.1 x.2 := by
          show (nk kk (.int i)).join ((nk x.1 x.2).join .own) = _
          rw [Kd.join_own]
          show Kd.join .own (nk x.1 x.2) = _
          cases nk x.1 x.2 <;> rfl
        rw [this] at os
        exact os
      have rx : Reps K H [x.2] [w] gw := by
        have := Reps.cons rw' (Reps.nil (K := K) (H := H))
        rw [List.append_nil] at this
        exact this
      obtain ⟨n1, m1⟩ := okIn_ok hc.1 rx (KOk.nk' rw' os')
      have n2 := List.nodup_cons.mp n0
      obtain ⟨p, s, h1, h2, h3⟩ : ∃ p s, Reps K H (ds.take i.toNat) (vs0.take i.toNat) p ∧ Reps K H (ds.drop i.toNat) (vs0.drop i.toNat) s ∧ p ++ s = f1 := by
        have : ∀ (m : Nat) {ds : List D} {vs : List V} {f : List Addr}, Reps K H ds vs f → ∃ p s, Reps K H (ds.take m) (vs.take m) p ∧ Reps K H (ds.drop m) (vs.drop m) s ∧ p ++ s = f := by
          intro m
          induction m with
          | zero => intro ds vs f r; exact ⟨[], f, .nil, r, rfl⟩
          | succ m ih =>
            intro ds vs f r
            cases r with
            | nil => exact ⟨[], [], .nil, .nil, rfl⟩
            | @cons d v f' ds vs g r t =>
              obtain ⟨p, s, h1, h2, h3⟩ := ih t
              exact ⟨f' ++ p, s, .cons r h1, h2, by rw [List.append_assoc, h3]⟩
        exact this _ q0
      have nn : (p ++ s).Nodup := by rw [h3]; exact n2.2
      obtain ⟨np, ns, nps⟩ := List.nodup_append.mp nn
      have dis : ∀ b, b ∈ p ∨ b ∈ s → ∀ c ∈ gw, b ≠ c := fun b hb c hc' e => by
        have : b ∈ f1 := by rw [← h3]; exact List.mem_append.mpr hb
        exact (m0 b (List.mem_cons_of_mem _ this)).1 (e ▸ (m1 c hc').1)
      obtain ⟨e1, e2, e3, e4⟩ := lst_put (Hb := Hb) hl n0 m0 ((h1.app rx).app h2) (List.nodup_append.mpr ⟨List.nodup_append.mpr ⟨np, n1, fun b hb => dis b (.inl hb)⟩, ns, fun b hb c hc' => by
          rcases List.mem_append.mp hb with z | z
          · exact nps b z c hc'
          · exact fun e => dis c (.inr hc') b z e.symm⟩) fun b hb => by
        rcases List.mem_append.mp hb with z | z
        · rcases List.mem_append.mp z with z | z
          · exact .inl (by rw [← h3]; exact List.mem_append_left _ z)
          · exact .inr (m1 b z)
        · exact .inl (by rw [← h3]; exact List.mem_append_right _ z)
      exact ⟨a, vs0, i, w, rfl, rfl, hl, by rw [← lim_eq, ← q0.length]; exact hc.2.1, hc.2.2.1, Int.lt_of_le_of_lt hc.2.2.2 (by decide), k a _ _ .non rfl List.mem_cons_self trivial e1 e2 e3 e4 .non⟩
    · cases ho
  · cases ho
theorem ok_popI : MtOk K opPopI rPopAt := by
  intro A H0 Hb H F d0 v f0 g xs vs y Q r0 n0 m0 rs os ho k
  unfold opPopI at ho
  split at ho
  · rename_i ds kk i
    cases hi : ixN ds.length i with
    | none => rw [hi] at ho; cases ho
    | some j =>
      rw [hi] at ho
      cases hd : ds[j]? with
      | none => simp only [Option.bind_some, hd] at ho; cases ho
      | some x =>
        simp only [Option.bind_some, hd] at ho
        split at ho
        · rename_i hc
          cases ho
          cases r0 with
          | @lst a vs0 _ f1 hl q0 =>
          obtain ⟨w, rfl, rw'⟩ := rs.one (d := .int i) rfl
          cases rw'
          obtain ⟨vx, gx, h1, h2, _⟩ := q0.get hd
          have n2 := List.nodup_cons.mp n0
          obtain ⟨g2, h3, h4, h5⟩ := q0.eraseIdx j
          obtain ⟨e1, e2, e3, e4⟩ := lst_put (Hb := Hb) hl n0 m0 h3 (h5 n2.2) fun b hb => .inl (h4 b hb)
          have eg := h2.noL hc.1
          subst eg
          obtain ⟨z1, z2, z3, z4⟩ := ixN_seq hi
          have hlim : (ds.length : Int) ≤ 16777216 := by have := hc.2; unfold LIM at this; omega
          have rx : Rep K (upd H a (.lst (vs0.eraseIdx j))) x vx [] := by
            refine h2.frame (fun b o e t => ?_) (fun b hb => nomatch hb)
            by_cases z : b = a
            · subst z; rw [hl] at e; cases e; exact t.elim
            · rw [upd_ne z]; exact e
          exact ⟨a, vs0, i, j, vx, rfl, rfl, hl, by omega, by omega, by rw [← q0.length]; exact z1, h1, k a _ _ vx rfl List.mem_cons_self trivial e1 e2 e3 e4 rx⟩
        · cases ho
  · cases ho
theorem ok_pop : MtOk K opPop rPop := by
  intro A H0 Hb H F d0 v f0 g xs vs y Q r0 n0 m0 rs os ho k
  unfold opPop at ho
  split at ho
  · rename_i ds
    cases hd : ds[ds.length - 1]? with
    | none => rw [hd] at ho; cases ho
    | some x =>
      simp only [hd, Option.bind_some] at ho
      split at ho
      · rename_i hc
        cases ho
        cases r0 with
        | @lst a vs0 _ f1 hl q0 =>
        cases rs
        obtain ⟨vx, gx, h1, h2, _⟩ := q0.get hd
        have n2 := List.nodup_cons.mp n0
        obtain ⟨g2, h3, h4, h5⟩ := q0.dropLast
        obtain ⟨e1, e2, e3, e4⟩ := lst_put (Hb := Hb) hl n0 m0 h3 (h5 n2.2) fun b hb => .inl (h4 b hb)
        have eg := h2.noL hc
        subst eg
        have rx : Rep K (upd H a (.lst vs0.dropLast)) x vx [] := by
          refine h2.frame (fun b o e t => ?_) (fun b hb => nomatch hb)
          by_cases z : b = a
          · subst z; rw [hl] at e; cases e; exact t.elim
          · rw [upd_ne z]; exact e
        exact ⟨a, vs0, vx, rfl, rfl, hl, by rw [← q0.length]; exact h1, k a _ _ vx rfl List.mem_cons_self trivial e1 e2 e3 e4 rx⟩
      · cases ho
  · cases ho
theorem ok_rev : MtOk K opRev rReverse := by
  intro A H0 Hb H F d0 v f0 g xs vs y Q r0 n0 m0 rs os ho k
  unfold opRev at ho
  split at ho
  · rename_i ds
    cases ho
    cases r0 with
    | @lst a vs0 _ f1 hl q0 =>
    cases rs
    have n2 := List.nodup_cons.mp n0
    obtain ⟨g2, h3, h4, h5⟩ := q0.reverse
    obtain ⟨e1, e2, e3, e4⟩ := lst_put (Hb := Hb) hl n0 m0 h3 (h5 n2.2) fun b hb => .inl (h4 b hb)
    exact ⟨a, vs0, rfl, rfl, hl, k a _ _ .non rfl List.mem_cons_self trivial e1 e2 e3 e4 .non⟩
  · cases ho
end
end Cz
set_option maxHeartbeats 2000000
/-! Cz14: x[i] = e, x[i] op= e, while, try. -/
namespace Cz
open PySem PySem.Spec PyProof.Rows L2
/-- what stands there behind a store -/
def setB (d0 : D) (i : D) (x : KD) : Option D := if okIn x.1 [x.2] = true then match d0, i with
  | .lst ds, .int n => (ixN ds.length n).map fun j => .lst (ds.set j x.2)
  | .dic kvs, i => (keyD i).bind fun k => if kvs.length < LIM then some (.dic (putD kvs k x.2)) else none
  | .dtk kvs, i => (keyT i).bind fun k => if kvs.length < LIM then some (.dtk (putD kvs k x.2)) else none
  | _, _ => none else none
def rSetA : TSet := fun o i v H Q => rSetL o i v H Q ∨ rSetD o i v H Q
theorem set_any {X : Cx} (hu : X.A.units + 1 < cLine) : PSet X rSetA := by
  intro pins s σ H o i v ov iv u Q I ro ri rv h
  rcases h with h | h
  · exact set_list pins s σ H o i v ov iv u Q I ro ri rv h
  · exact set_dict hu pins s σ H o i v ov iv u Q I ro ri rv h
section
variable {K : PySem.W.Frag} {A : Addr → Prop} {H0 Hb H : Hp} {F : Nat → List Addr}
theorem Reps.atN : ∀ {ds : List D} {vs : List V} {f : List Addr} {j : Nat} {d : D}, Reps K H ds vs f → ds[j]? = some d → ∃ v p g r, vs[j]? = some v ∧ f = p ++ g ++ r ∧ Rep K H d v g ∧
    ∀ (H' : Hp) d' g' v', (∀ b o, H b = some o → IsT o → H' b = some o) → (∀ b, b ∈ p ∨ b ∈ r → ∀ o, H b = some o → H' b = some o) → Rep K H' d' v' g' → Reps K H' (ds.set j d') (vs.set j v') (p ++ g' ++ r)
  | _, _, _, 0, d, .cons (f := f1) (g := g1) r t, e => by
    simp at e; subst e
    refine ⟨_, [], f1, g1, rfl, rfl, r, fun H' d' g' v' ht hk r' => ?_⟩
    exact .cons r' (t.frame ht fun a ha => hk a (.inr ha))
  | _, _, _, j + 1, d, .cons (f := f1) (g := g1) r t, e => by
    obtain ⟨v, p, g, q, h1, h2, h3, h4⟩ := Reps.atN (j := j) (d := d) t (by simpa using e)
    subst h2
    refine ⟨v, f1 ++ p, g, q, by simpa using h1, by simp, h3, fun H' d' g' v' ht hk r' => ?_⟩
    have := Reps.cons (r.frame ht fun a ha => hk a (.inl (List.mem_append_left _ ha))) (h4 H' d' g' v' ht (fun b hb => hk b (hb.imp (fun z => List.mem_append_right _ z) id)) r')
    simpa using this
theorem RepK.app {κ : Type} : ∀ {ds es : List (κ × D)} {vs ws : List (κ × V)} {f g : List Addr}, RepK K H ds vs f → RepK K H es ws g → RepK K H (ds ++ es) (vs ++ ws) (f ++ g)
  | _, _, _, _, _, _, .nil, s => s
  | _, _, _, _, _, _, .cons r t, s => by rw [List.append_assoc]; exact .cons r (RepK.app t s)
theorem putK_out {κ : Type} [DecidableEq κ] {kvs : List (κ × V)} {k : κ} (v : V) (h : k ∉ kvs.map (·.1)) : putK kvs k v = kvs ++ [(k, v)] := by
  unfold putK
  have h2 : ¬ (kvs.any fun kv => decide (kv.1 = k)) = true := fun z => by
    obtain ⟨p, hp, e⟩ := List.any_eq_true.mp z
    exact h (List.mem_map.mpr ⟨p, hp, of_decide_eq_true e⟩)
  rw [if_neg h2]
theorem valD_none {κ : Type} [DecidableEq κ] {kvs : List (κ × D)} {k : κ} : valD kvs k = none → k ∉ kvs.map (·.1) := by
  induction kvs with
  | nil => intro _ h; cases h
  | cons p r ih =>
    obtain ⟨k', d⟩ := p
    intro h z
    by_cases e : k' = k
    · simp [valD, e] at h
    · have h' : valD r k = none := by simpa [valD, e] using h
      rcases List.mem_cons.mp z with w | w
      · exact e w.symm
      · exact ih h' w
/-- the store -/
theorem setB_ok {d0 i d0' : D} {v vi vx : V} {f0 fi g : List Addr} {x : KD} {Q : Hp → Prop} (r0 : Rep K H d0 v f0) (n0 : f0.Nodup) (m0 : ∀ b ∈ f0, Hb b ≠ none ∧ Mu (H b)) (ri : Rep K H i vi fi) (rx : Rep K H x.2 vx g) (ox : KOk A H0 F Hb H x.1 g) (e : setB d0 i x = some d0')
    (k : ∀ (a : Addr) (o : HO) (f0' : List Addr), v = .ref a → a ∈ f0 → L2.Mut (some o) → Rep K (upd H a o) d0' v f0' → f0'.Nodup → (∀ b ∈ f0', b ∈ f0 ∨ Hb b = none) → (∀ b ∈ f0', Mu ((upd H a o) b)) → Q (upd H a o)) : rSetA v vi vx H Q := by
  unfold setB at e
  split at e
  · rename_i hc
    have rs : Reps K H [x.2] [vx] g := by
      have := Reps.cons rx (Reps.nil (K := K) (H := H))
      rw [List.append_nil] at this
      exact this
    obtain ⟨ng, mg⟩ := okIn_ok hc rs ox
    -- the nodes behind the store
    have fin : ∀ {a : Addr} {p g0 s : List Addr} {o : HO}, f0 = a :: (p ++ g0 ++ s) → L2.Mut (some o) → (a :: (p ++ g ++ s)).Nodup ∧ (∀ b ∈ a :: (p ++ g ++ s), b ∈ f0 ∨ Hb b = none) ∧ ∀ b ∈ a :: (p ++ g ++ s), Mu ((upd H a o) b) := fun {a p g0 s o} ef hm => by
      rw [ef] at n0
      have n1 := List.nodup_cons.mp n0
      obtain ⟨n2, n3, n4⟩ := List.nodup_append.mp n1.2
      obtain ⟨n5, n6, n7⟩ := List.nodup_append.mp n2
      have out : ∀ b ∈ f0, b ∉ g := fun b hb z => (m0 b hb).1 (mg b z).1
      have inn : ∀ b, b = a ∨ b ∈ p ∨ b ∈ s → b ∈ f0 := fun b hb => by
        rw [ef]
        rcases hb with z | z | z
        · simp [z]
        · simp [z]
        · simp [z]
      refine ⟨List.nodup_cons.mpr ⟨fun z => ?_, List.nodup_append.mpr ⟨List.nodup_append.mpr ⟨n5, ng, fun x hx y hy e => out x (inn x (.inr (.inl hx))) (e ▸ hy)⟩, n3, fun x hx y hy => ?_⟩⟩, fun b hb => ?_, fun b hb => ?_⟩
      · rcases List.mem_append.mp z with z | z
        · rcases List.mem_append.mp z with z | z
          · exact n1.1 (by simp [z])
          · exact out a (inn a (.inl rfl)) z
        · exact n1.1 (by simp [z])
      · rcases List.mem_append.mp hx with z | z
        · exact n4 x (List.mem_append_left _ z) y hy
        · exact fun e => out y (inn y (.inr (.inr hy))) (e ▸ z)
      · rcases List.mem_cons.mp hb with z | z
        · exact .inl (inn b (.inl z))
        · rcases List.mem_append.mp z with z | z
          · rcases List.mem_append.mp z with z | z
            · exact .inl (inn b (.inr (.inl z)))
            · exact .inr (mg b z).1
          · exact .inl (inn b (.inr (.inr z)))
      · by_cases e : b = a
        · subst e; exact ⟨by rw [upd_same]; exact hm⟩
        · rw [upd_ne e]
          rcases List.mem_cons.mp hb with z | z
          · exact absurd z e
          · rcases List.mem_append.mp z with z | z
            · rcases List.mem_append.mp z with z | z
              · exact (m0 b (inn b (.inr (.inl z)))).2
              · exact (mg b z).2
            · exact (m0 b (inn b (.inr (.inr z)))).2
    have keep : ∀ {a : Addr} {p g0 s : List Addr} {o ob : HO}, H a = some ob → ¬ IsT ob → f0 = a :: (p ++ g0 ++ s) → (∀ b o', H b = some o' → IsT o' → (upd H a o) b = some o') ∧ (∀ b, b ∈ p ∨ b ∈ s → ∀ o', H b = some o' → (upd H a o) b = some o') ∧ ∀ b ∈ g, ∀ o', H b = some o' → (upd H a o) b = some o' := fun {a p g0 s o ob} ha nt ef => by
      rw [ef] at n0
      have n1 := List.nodup_cons.mp n0
      refine ⟨fun b o' eb t => ?_, fun b hb o' eb => ?_, fun b hb o' eb => ?_⟩
      · have : b ≠ a := fun z => by subst z; rw [ha] at eb; cases eb; exact nt t
        rw [upd_ne this]; exact eb
      · have : b ≠ a := fun z => n1.1 (by subst z; rcases hb with z | z <;> simp [z])
        rw [upd_ne this]; exact eb
      · have : b ≠ a := fun z => (m0 a (by rw [ef]; simp)).1 (z ▸ (mg b hb).1)
        rw [upd_ne this]; exact eb
    cases d0 with
    | lst ds =>
      cases i with
      | int n =>
        cases hj : ixN ds.length n with
        | none => simp [hj] at e
        | some j =>
          simp only [hj, Option.map_some, Option.some.injEq] at e
          subst e
          cases ri
          cases r0 with
          | @lst a vs _ f1 hl q0 =>
          obtain ⟨hj1, _, _, hj4⟩ := ixN_seq hj
          have hjl : j < ds.length := by
            have := hj
            unfold ixN at this
            first | omega | (split at this <;> first | (cases this; omega) | (split at this <;> first | (cases this; omega) | cases this))
          obtain ⟨w, p, g0, s, h1, h2, h3, h4⟩ := q0.atN (List.getElem?_eq_getElem hjl)
          subst h2
          obtain ⟨k1, k2, k3⟩ := keep (o := .lst (vs.set j vx)) hl (fun z => z) rfl
          obtain ⟨f1', f2', f3'⟩ := fin (o := .lst (vs.set j vx)) rfl trivial
          exact .inl ⟨a, vs, n, j, rfl, rfl, hl, by rw [← q0.length]; exact hj, k a _ _ rfl List.mem_cons_self trivial (.lst upd_same (h4 _ x.2 g vx k1 k2 (rx.frame k1 k3))) f1' f2' f3'⟩
      | _ => cases e
    | dic kds =>
      cases hk : keyD i with
      | none => simp [hk] at e
      | some kk =>
        simp only [hk, Option.bind_some] at e
        split at e
        · rename_i hz
          cases e
          have ev := keyD_rep ri hk
          subst ev
          cases r0 with
          | @dic a kvs _ f1 hl nk q0 =>
          have hz' : kvs.length < sizeLine := by rw [← lim_eq, ← q0.length]; exact hz
          refine .inr ⟨a, _, rfl, DPut.k hl hz', ?_⟩
          cases hd : valD kds kk with
          | some d =>
            obtain ⟨w, p, g0, s, h1, h2, h3, h4⟩ := q0.at nk hd
            subst h2
            obtain ⟨k1, k2, k3⟩ := keep (o := .dK (putK kvs kk vx)) hl (fun z => z) rfl
            obtain ⟨f1', f2', f3'⟩ := fin (o := .dK (putK kvs kk vx)) rfl trivial
            exact k a _ _ rfl List.mem_cons_self trivial (.dic upd_same (putD_nodup nk) (h4 _ x.2 g vx k1 k2 (rx.frame k1 k3))) f1' f2' f3'
          | none =>
            have no := valD_none hd
            have nv : kk ∉ kvs.map (·.1) := by rw [q0.keys]; exact no
            have e1 : f1 = f1 ++ [] ++ [] := by simp
            obtain ⟨k1, k2, k3⟩ := keep (p := f1) (g0 := []) (s := []) (o := .dK (putK kvs kk vx)) hl (fun z => z) (by rw [← e1])
            obtain ⟨f1', f2', f3'⟩ := fin (p := f1) (g0 := []) (s := []) (o := .dK (putK kvs kk vx)) (by rw [← e1]) trivial
            have r1 : RepK K (upd H a (.dK (putK kvs kk vx))) (kds ++ [(kk, x.2)]) (kvs ++ [(kk, vx)]) (f1 ++ (g ++ [])) :=
              (q0.frame k1 fun b hb => k2 b (.inl hb)).app (.cons (rx.frame k1 k3) .nil)
            rw [← putD_out x.2 no, ← putK_out vx nv, List.append_nil] at r1
            have e2 : f1 ++ g ++ [] = f1 ++ g := by simp
            rw [e2] at f1' f2' f3'
            exact k a _ _ rfl List.mem_cons_self trivial (.dic upd_same (putD_nodup nk) r1) f1' f2' f3'
        · cases e
    | dtk kds =>
      cases hk : keyT i with
      | none => simp [hk] at e
      | some kk =>
        simp only [hk, Option.bind_some] at e
        split at e
        · rename_i hz
          cases e
          obtain ⟨bk, ev, eb⟩ := keyT_rep ri hk
          subst ev
          cases r0 with
          | @dtk a kvs _ f1 hl nk q0 =>
          have hz' : kvs.length < sizeLine := by rw [← lim_eq, ← q0.length]; exact hz
          refine .inr ⟨a, _, rfl, DPut.t hl eb hz', ?_⟩
          cases hd : valD kds kk with
          | some d =>
            obtain ⟨w, p, g0, s, h1, h2, h3, h4⟩ := q0.at nk hd
            subst h2
            obtain ⟨k1, k2, k3⟩ := keep (o := .dT (putK kvs kk vx)) hl (fun z => z) rfl
            obtain ⟨f1', f2', f3'⟩ := fin (o := .dT (putK kvs kk vx)) rfl trivial
            exact k a _ _ rfl List.mem_cons_self trivial (.dtk upd_same (putD_nodup nk) (h4 _ x.2 g vx k1 k2 (rx.frame k1 k3))) f1' f2' f3'
          | none =>
            have no := valD_none hd
            have nv : kk ∉ kvs.map (·.1) := by rw [q0.keys]; exact no
            have e1 : f1 = f1 ++ [] ++ [] := by simp
            obtain ⟨k1, k2, k3⟩ := keep (p := f1) (g0 := []) (s := []) (o := .dT (putK kvs kk vx)) hl (fun z => z) (by rw [← e1])
            obtain ⟨f1', f2', f3'⟩ := fin (p := f1) (g0 := []) (s := []) (o := .dT (putK kvs kk vx)) (by rw [← e1]) trivial
            have r1 : RepK K (upd H a (.dT (putK kvs kk vx))) (kds ++ [(kk, x.2)]) (kvs ++ [(kk, vx)]) (f1 ++ (g ++ [])) :=
              (q0.frame k1 fun b hb => k2 b (.inl hb)).app (.cons (rx.frame k1 k3) .nil)
            rw [← putD_out x.2 no, ← putK_out vx nv, List.append_nil] at r1
            have e2 : f1 ++ g ++ [] = f1 ++ g := by simp
            rw [e2] at f1' f2' f3'
            exact k a _ _ rfl List.mem_cons_self trivial (.dtk upd_same (putD_nodup nk) r1) f1' f2' f3'
        · cases e
    | _ => cases e
  · cases e
end
def stoS (p : SPh) (i s : SE) : SS := fun ρ => (s ρ).out ρ fun x => (p ρ).out ρ fun y => (i ρ).out ρ fun z => match setB y.2.2 z.2 x with
  | some d => (match putAt ρ y d with
    | some ρ' => .nx ρ'
    | none => .st)
  | none => .st
section
variable {X : Cx} {CA : String → Addr} {W : WX} {pos pos' p1 p2 p3 : Pos} {o i e : Expr} {se si : SE} {sp : SPh}
theorem s_sto (hu : X.A.units + 65 < cLine) (he : PE X e (tE X.K CA W se)) (ho : PE X o (tP CA W X.K sp)) (hi : PE X i (tE X.K CA W si))
    (ha : ∀ v, assign (.Subscript o i pos') X.env v = (do
      let ov ← holding [v] (eval o X.env)
      let iv ← holding [v, ov] (eval i X.env)
      standAt pos'
      holding [v, ov, iv] (setItem ov iv v)
      release [v, ov, iv] []) := by intro _; rfl)
    (hs : swapsWithSole [.Subscript o i pos'] e pos.line X.env = pure false := by rfl) (hw : swappedStores [.Subscript o i pos'] e X.env = pure none := by rfl)
    (h1 : (assignEach [.Subscript o i pos'] X.env).map (·.2) = [assign (.Subscript o i pos') X.env] := by rfl) :
    PS X (.Assign [.Subscript o i pos'] e pos) (tS X.K CA W (stoS sp si se)) := by
  refine psI (ps_asg he (pg_sub ho hi (set_any (by omega)) ha) hs hw h1) fun De σ H ⟨A, H0, F, G, ρ, sr, h⟩ => ?_
  refine ⟨A, H0, F, G, ρ, sr, (lift h sr).imp fun x _ q vx H1 g s1 rx ox => ?_⟩
  refine ⟨A, H0, F, G, ρ, sr.same s1, (lift q (sr.same s1)).imp fun y _ q2 v H2 s2 at2 => ?_⟩
  have s12 := s1.trans s2
  refine ⟨A, H0, F, G, ρ, sr.same s12, (lift q2 (sr.same s12)).imp fun z _ q3 vi H3 fi s3 ri oi => ?_⟩
  have s13 := s12.trans s3
  have s23 := s2.trans s3
  cases hb : setB y.2.2 z.2 x with
  | none => simp only [hb] at q3; exact q3.elim
  | some d' =>
    simp only [hb] at q3
    obtain ⟨f0, r0, n0, m0, wr⟩ := (at2.same s3).open sr s13
    refine setB_ok r0 n0 m0 ri (rx.same s23) (ox.wide (Same.refl _) s23) hb fun a ob f0' ea ha' hm r' nf hf hmu => ?_
    obtain ⟨ρ', F', e1, sr'⟩ := wr a ob d' f0' ea ha' hm r' nf hf hmu
    rw [e1] at q3
    exact q3 σ _ F' sr'
end
/-! ### x[i] op= e -/
def getB (d0 i : D) : Option D := match d0, i with
  | .lst ds, .int n => (ixN ds.length n).bind fun j => ds[j]?
  | .dic kvs, i => (keyD i).bind fun k => valD kvs k
  | _, _ => none
def staS (op : Operator) (p : SPh) (i s : SE) : SS := fun ρ => (p ρ).out ρ fun y => (i ρ).out ρ fun z => match getB y.2.2 z.2 with
  | some d1 => (s ρ).out ρ fun x => match augB op d1 x.2 with
    | some d2 => (match setB y.2.2 z.2 (.own, d2) with
      | some d => (match putAt ρ y d with
        | some ρ' => .nx ρ'
        | none => .st)
      | none => .st)
    | none => .st
  | none => .st
def rGetA (K : PySem.W.Frag) : V → V → Hp → VK → Prop := fun o i H Q => (∃ p xs k v, o = .ref p ∧ i = .int k ∧ SqL K H p xs ∧ atI xs k = some v ∧ Q v H) ∨ ∃ a v, o = .ref a ∧ DGet H a i (some v) ∧ Q v H
theorem get_any {X : Cx} (hu : X.A.units + 1 < cLine) : PGet X (rGetA X.K) := by
  intro pins s σ H o i ov iv Q I ro ri h
  rcases h with ⟨p, xs, k, z, rfl, rfl, hq, he, q⟩ | ⟨a, v, rfl, g, q⟩
  · cases ro
    obtain ⟨t, rfl⟩ := ri
    obtain ⟨its, r, pl, hz⟩ := I.list hq
    obtain ⟨j, h1, h2, h3, h4, h5⟩ := atI_get he
    obtain ⟨w, ew, rw'⟩ := r.get h2
    have hl := r.length
    have hn := line63
    have fin : EP X pins σ Q w s := ⟨z, H, I, rw', q⟩
    by_cases h0 : 0 ≤ k
    · have hj : k.toNat = j := by
        rw [seqIndex_of h0 h5] at h1
        exact Option.some.inj h1
      exact wpAny_getItem_list pl.isList h0 (by omega) (by rw [hj]; simpa using ew) fin
    · have hj : (k + (its.toArray.size : Int)).toNat = j := by
        rw [seqIndex_neg (by omega) h4] at h1
        rw [List.size_toArray, ← hl]
        exact Option.some.inj h1
      exact wpAny_getItem_list_neg pl.isList (by omega) (by rw [List.size_toArray] <;> omega) (by omega) (by rw [hj]; simpa using ew) fin
  · cases (show ov = Value.ref a from ro)
    exact d_getItem hu I g ri fun w' s' I' r' => ⟨v, H, I', r', q⟩
theorem getB_ok {K : PySem.W.Frag} {H : Hp} {d0 i d1 : D} {v vi : V} {f0 fi : List Addr} {Q : VK} (r0 : Rep K H d0 v f0) (ri : Rep K H i vi fi) (e : getB d0 i = some d1) (k : ∀ w g, Rep K H d1 w g → Q w H) : rGetA K v vi H Q := by
  cases d0 with
  | lst ds =>
    cases i with
    | int n =>
      cases hj : ixN ds.length n with
      | none => simp [getB, hj] at e
      | some j =>
        simp only [getB, hj, Option.bind_some] at e
        cases ri
        cases r0 with
        | @lst a vs _ f1 hl rs =>
        obtain ⟨w, g, h1, h2, _⟩ := rs.get e
        exact .inl ⟨a, vs, n, w, rfl, rfl, .of hl, by unfold atI; rw [← rs.length, hj]; exact h1, k w g h2⟩
    | _ => cases e
  | dic kds =>
    cases hk : keyD i with
    | none => simp [getB, hk] at e
    | some kk =>
      simp only [getB, hk, Option.bind_some] at e
      have ev := keyD_rep ri hk
      subst ev
      cases r0 with
      | @dic a kvs _ f1 hl nk rs =>
      obtain ⟨w, p, g, s, h1, h2, h3, h4⟩ := rs.at nk e
      exact .inr ⟨a, w, rfl, h1 ▸ DGet.k hl, k w g h3⟩
  | _ => cases e
section
variable {X : Cx} {CA : String → Addr} {W : WX} {pos pos' p1 p2 p3 : Pos} {o i e : Expr} {se si : SE} {sp : SPh} {op : Operator}
theorem s_sta (hu : X.A.units + 65 < cLine) (he : PE X e (tE X.K CA W se)) (ho : PE X o (tP CA W X.K sp)) (hi : PE X i (tE X.K CA W si))
    (ha : ∀ ov iv new, augStore i ov iv new = (do holding [new, ov, iv] (setItem ov iv new); release [new, ov, iv] []; pure .next) := by intros; rfl) :
    PS X (.AugAssign (.Subscript o i pos') op e pos) (tS X.K CA W (staS op sp si se)) := by
  refine psI (ps_augS ho hi (get_any (by omega)) he (rAug_ok op) (set_any (by omega)) ha) fun De σ H ⟨A, H0, F, G, ρ, sr, h⟩ => ?_
  refine ⟨A, H0, F, G, ρ, sr, (lift h sr).imp fun y _ q v H1 s1 at1 => ?_⟩
  refine ⟨A, H0, F, G, ρ, sr.same s1, (lift q (sr.same s1)).imp fun z _ q2 vi H2 fi s2 ri oi => ?_⟩
  have s12 := s1.trans s2
  obtain ⟨f0, r0, _⟩ := (at1.same s2).open sr s12
  cases hg : getB y.2.2 z.2 with
  | none => simp only [hg] at q2; exact q2.elim
  | some d1 =>
    simp only [hg] at q2
    refine getB_ok r0 ri hg fun w1 g1 rw1 => ?_
    refine ⟨A, H0, F, G, ρ, sr.same s12, (lift q2 (sr.same s12)).imp fun x _ q3 vx H3 gx s3 rx ox => ?_⟩
    have s13 := s12.trans s3
    cases hb : augB op d1 x.2 with
    | none => simp only [hb] at q3; exact q3.elim
    | some d2 =>
      simp only [hb] at q3
      refine augB_ok (rw1.same s3) rx hb fun w2 rw2 => ?_
      cases hc : setB y.2.2 z.2 (.own, d2) with
      | none => simp only [hc] at q3; exact q3.elim
      | some d' =>
        simp only [hc] at q3
        obtain ⟨f0, r0, n0, m0, wr⟩ := (at1.same (s2.trans s3)).open sr s13
        refine setB_ok (A := A) (H0 := H0) (F := F) (x := (.own, d2)) r0 n0 m0 (ri.same s3) rw2 (KOk.nil _) hc fun a ob f0' ea ha' hm r' nf hf hmu => ?_
        obtain ⟨ρ', F', e1, sr'⟩ := wr a ob d' f0' ea ha' hm r' nf hf hmu
        rw [e1] at q3
        exact q3 σ _ F' sr'
end
end Cz
set_option maxHeartbeats 2000000
/-! Cz15: while, try, index, sorted, len(set(..)). -/
namespace Cz
open PySem PySem.Spec PyProof.Rows L2
/-! ### while -/
def whN (t : STs) (b : SS) : Nat → SS
  | 0 => fun _ => .st
  | n + 1 => fun ρ => (t ρ).out ρ fun c => if c = true then (match b ρ with
    | .nx ρ2 => whN t b n ρ2
    | .ct ρ2 => whN t b n ρ2
    | .bk ρ2 => .nx ρ2
    | o => o) else .nx ρ
open Classical in
noncomputable def whS (t : STs) (b : SS) : SS := fun ρ => if h : ∃ n, whN t b n ρ ≠ .st then whN t b h.choose ρ else .st
theorem whN_mono {t : STs} {b : SS} : ∀ {n m : Nat} {ρ : Env}, n ≤ m → whN t b n ρ ≠ .st → whN t b m ρ = whN t b n ρ := by
  intro n
  induction n with
  | zero => intro m ρ _ h; exact absurd rfl h
  | succ n ih =>
    intro m ρ hm h
    obtain ⟨m, rfl⟩ : ∃ k, m = k + 1 := ⟨m - 1, by omega⟩
    unfold whN at h ⊢
    cases ht : t ρ with
    | ok c =>
      rw [ht] at h
      simp only [R.out_ok] at h ⊢
      cases c with
      | true =>
        rw [if_pos rfl] at h ⊢
        cases hb : b ρ with
        | nx ρ2 => simp only [hb] at h ⊢; exact ih (by omega) h
        | ct ρ2 => simp only [hb] at h ⊢; exact ih (by omega) h
        | _ => rfl
      | false => rfl
    | ex c => rfl
    | st => rfl
theorem whN_whS {t : STs} {b : SS} {n : Nat} {ρ : Env} (h : whN t b n ρ ≠ .st) : whS t b ρ = whN t b n ρ := by
  have hx : ∃ n, whN t b n ρ ≠ .st := ⟨n, h⟩
  unfold whS
  rw [dif_pos hx]
  rcases Nat.le_total hx.choose n with q | q
  · exact (whN_mono q hx.choose_spec).symm
  · exact whN_mono q h
theorem whS_st {t : STs} {b : SS} {ρ : Env} (h : ∀ n, whN t b n ρ = .st) : whS t b ρ = .st := by
  unfold whS
  rw [dif_neg fun ⟨n, z⟩ => z (h n)]
theorem whS_get {t : STs} {b : SS} {ρ : Env} : ∃ n, whS t b ρ = whN t b n ρ := by
  rcases Classical.em (∃ n, whN t b n ρ ≠ .st) with h | h
  · exact ⟨h.choose, whN_whS h.choose_spec⟩
  · exact ⟨0, whS_st fun n => Classical.byContradiction fun z => h ⟨n, z⟩⟩
/-- one turn -/
theorem whS_step {t : STs} {b : SS} {ρ : Env} : whS t b ρ = (t ρ).out ρ fun c => if c = true then (match b ρ with
    | .nx ρ2 => whS t b ρ2
    | .ct ρ2 => whS t b ρ2
    | .bk ρ2 => .nx ρ2
    | o => o) else .nx ρ := by
  have up : ∀ n, whN t b (n + 1) ρ = (t ρ).out ρ fun c => if c = true then (match b ρ with
    | .nx ρ2 => whN t b n ρ2
    | .ct ρ2 => whN t b n ρ2
    | .bk ρ2 => .nx ρ2
    | o => o) else .nx ρ := fun n => rfl
  -- enough: some n such that the two sides agree
  have key : ∃ n, ((t ρ).out ρ fun c => if c = true then (match b ρ with
    | .nx ρ2 => whS t b ρ2
    | .ct ρ2 => whS t b ρ2
    | .bk ρ2 => .nx ρ2
    | o => o) else .nx ρ) = whN t b (n + 1) ρ := by
    cases ht : t ρ with
    | ok c =>
      cases c with
      | true =>
        cases hb : b ρ with
        | nx ρ2 => obtain ⟨n, e⟩ := whS_get (t := t) (b := b) (ρ := ρ2); exact ⟨n, by rw [up, ht, hb]; simp only [R.out_ok, if_true]; exact e⟩
        | ct ρ2 => obtain ⟨n, e⟩ := whS_get (t := t) (b := b) (ρ := ρ2); exact ⟨n, by rw [up, ht, hb]; simp only [R.out_ok, if_true]; exact e⟩
        | _ => exact ⟨0, by rw [up, ht, hb]⟩
      | false => exact ⟨0, by rw [up, ht]; rfl⟩
    | ex c => exact ⟨0, by rw [up, ht]; rfl⟩
    | st => exact ⟨0, by rw [up, ht]; rfl⟩
  obtain ⟨n, e⟩ := key
  rw [e]
  by_cases h : whN t b (n + 1) ρ = .st
  · rw [h]
    refine whS_st fun m => ?_
    -- if m told anything, n + 1's turn would do so
    cases m with
    | zero => rfl
    | succ m =>
      rw [h] at e
      rw [up]
      cases ht : t ρ with
      | ok c =>
        rw [ht] at e
        cases c with
        | true =>
          simp only [R.out_ok, if_true] at e ⊢
          cases hb : b ρ with
          | nx ρ2 =>
            simp only [hb] at e ⊢
            refine Classical.byContradiction fun z => z ?_
            rw [← whN_whS z]; exact e
          | ct ρ2 =>
            simp only [hb] at e ⊢
            refine Classical.byContradiction fun z => z ?_
            rw [← whN_whS z]; exact e
          | bk ρ2 => rw [hb] at e; exact e
          | rt k d => rw [hb] at e; exact e
          | ex c ρ2 => rw [hb] at e; exact e
          | st => rfl
          | ri ρ2 k d => rw [hb] at e; exact e
        | false => exact e
      | ex c => rw [ht] at e; exact e
      | st => rfl
  · exact whN_whS h
section
variable {X : Cx} {CA : String → Addr} {W : WX} {pos pos' : Pos} {c : Expr} {body : List Stmt} {t : STs} {sb : SS}
theorem s_while (hp : PassesOwn (model X.prog X.w) X.A X.env X.xe) (hc : PT X c (tT X.K CA W t)) (hb : PSs X body (tS X.K CA W sb)) : PS X (.While c body [] pos) (tS X.K CA W (whS t sb)) := by
  refine psI (ps_while hp hc hb) fun D σ H ⟨A, H0, F, G, ρ, sr, h⟩ => ?_
  obtain ⟨n, e⟩ := whS_get (t := t) (b := sb) (ρ := ρ)
  have h : OutOk X.K CA W A H0 G D (whS t sb ρ) := h
  rw [e] at h
  refine ⟨fun m σ H => ∃ F ρ, SR X.K A H0 F G ρ σ H ∧ OutOk X.K CA W A H0 G D (whN t sb m ρ), ⟨n, F, ρ, sr, h⟩, ?_⟩
  rintro m σ2 H2 ⟨F2, ρ2, sr2, o2⟩
  cases m with
  | zero => exact o2.elim
  | succ m =>
    have o2 : OutOk X.K CA W A H0 G D ((t ρ2).out ρ2 fun c => if c = true then (match sb ρ2 with
    | .nx ρ2 => whN t sb m ρ2
    | .ct ρ2 => whN t sb m ρ2
    | .bk ρ2 => .nx ρ2
    | o => o) else .nx ρ2) := o2
    refine ⟨A, H0, F2, G, ρ2, sr2, (lift o2 sr2).imp fun b _ q H3 s3 => ?_⟩
    cases b with
    | true =>
      rw [if_pos rfl] at q ⊢
      refine ⟨fun σ H => ∃ F ρ, SR X.K A H0 F G ρ σ H ∧ OutOk X.K CA W A H0 G D (whN t sb m ρ), fun σ' H' z => ⟨m, Nat.lt_succ_self m, z⟩, A, H0, F2, G, ρ2, sr2.same s3, ?_⟩
      cases h2 : sb ρ2 with
      | nx ρ4 => simp only [h2] at q; exact fun σ4 H4 F4 sr4 => ⟨F4, ρ4, sr4, q⟩
      | ct ρ4 => simp only [h2] at q; exact fun σ4 H4 F4 sr4 => ⟨F4, ρ4, sr4, q⟩
      | bk ρ4 => simp only [h2] at q; exact fun σ4 H4 F4 sr4 => q σ4 H4 F4 sr4
      | rt k' d' => simp only [h2] at q; exact q
      | ex c ρ4 => simp only [h2] at q; exact q
      | st => simp only [h2] at q; exact q.elim
      | ri ρ4 k' d' => simp only [h2] at q; exact q
    | false =>
      rw [if_neg Bool.false_ne_true] at q ⊢
      exact q σ2 H3 F2 (sr2.same s3)
end
/-! ### try -/
def subX (c D : String) : Bool := c == D || D == "CenserError"
def Out.nox : Out → Out
  | .ex _ _ => .st
  | o => o
def hanS (c : Ec) : List (String × (Ec → SS)) → SS
  | [] => fun ρ => .ex c ρ
  | (D, s) :: r => fun ρ => if subX c.nm D = true then (s c ρ).nox else hanS c r ρ
def tryS (xs : List String) (b : SS) (hs : List (String × (Ec → SS))) : SS := fun ρ => match b ρ with
  | .ex c ρ' => if xs.contains c.nm = true then hanS c hs ρ' else .st
  | o => o
inductive Hds (X : Cx) (CA : String → Addr) (xs : List String) : List ExceptHandler → List (String × (Ec → SS)) → Prop
  | nil : Hds X CA xs [] []
  | cons {D : String} {s : Ec → SS} {b₀ : Stmt} {suite : List Stmt} {np pos' : Pos} {hds : List ExceptHandler} {l : List (String × (Ec → SS))} (hc : Names X (Str.ofString D) (.ref (CA D))) (hx : ∀ c ∈ xs, PySem.W.exmOne X.K (.ref (CA c)) (.ref (CA D)) = some (subX c D))
      (hsu : ∀ (e : Ec) (a : Addr) (oe : Obj) (pn : List (Addr × Obj)), PSs (X.suite a ((a, oe) :: pn)) (b₀ :: suite) (tS X.K CA W0 (s e))) (r : Hds X CA xs hds l) : Hds X CA xs (.ExceptHandler (some (.Name (Str.ofString D) np)) none (b₀ :: suite) pos' :: hds) ((D, s) :: l)
def hdsOf (X : Cx) (CA : String → Addr) (l : List (String × (Ec → SS))) : List (Value × (Addr → Value → Option Addr → TS)) := l.map fun p => (.ref (CA p.1), fun _ _ _ D σ H => ∃ e, tS X.K CA W0 (p.2 e) D σ H)
theorem Hds.ok {X : Cx} {CA : String → Addr} {xs : List String} : ∀ {hds : List ExceptHandler} {l : List (String × (Ec → SS))}, Hds X CA xs hds l → HdsOk X hds (hdsOf X CA l)
  | _, _, .nil => .nil
  | _, _, .cons hc hx hsu r => .cons hc (fun a oe cls d pn _ _ => ⟨fun pins s σ H D I ⟨e, q⟩ => (hsu e a oe pn).run pins s σ H D I q⟩) r.ok
theorem nox_ok {K : PySem.W.Frag} {CA : String → Addr} {W : WX} {A : Addr → Prop} {H0 : Hp} {G : List (D × V)} {De : Ends} {o : Out} (h : OutOk K CA W A H0 G De o.nox) : OutOk K CA W0 A H0 G De o := by
  cases o with
  | ex c ρ => exact h.elim
  | nx ρ => exact h
  | rt k d => exact h
  | bk ρ => exact h
  | ct ρ => exact h
  | st => exact h.elim
  | ri ρ k d => exact h
section
variable {X : Cx} {CA : String → Addr} {W : WX} {pos : Pos} {xs : List String} {body : List Stmt} {h₀ : ExceptHandler} {hds : List ExceptHandler} {l : List (String × (Ec → SS))} {sb : SS}
theorem Hds.catch {A : Addr → Prop} {H0 H : Hp} {F : Nat → List Addr} {G : List (D × V)} {ρ : Env} {σ : L2.St} {D : Ends} {c : Ec} {od : Option Addr} (hcx : c.nm ∈ xs) : ∀ {hds : List ExceptHandler} {l : List (String × (Ec → SS))}, Hds X CA xs hds l → SR X.K A H0 F G ρ σ H → (hanS c l ρ = .ex c ρ → OutOk X.K CA W A H0 G D (hanS c l ρ) → W (.ref (CA c.nm)) od σ H) → OutOk X.K CA W A H0 G D (hanS c l ρ) → wMany X.K W D (hdsOf X CA l) (.ref (CA c.nm)) od σ H
  | _, _, .nil, sr, k, o => k rfl o
  | _, _, .cons (D := E) (s := s) (l := l) hc hx hsu r, sr, k, o => by
    have o : OutOk X.K CA W A H0 G D (if subX c.nm E = true then (s c ρ).nox else hanS c l ρ) := o
    have k : ((if subX c.nm E = true then (s c ρ).nox else hanS c l ρ) = .ex c ρ → OutOk X.K CA W A H0 G D (if subX c.nm E = true then (s c ρ).nox else hanS c l ρ) → W (.ref (CA c.nm)) od σ H) := k
    refine ⟨subX c.nm E, hx _ hcx, fun hy a ha => ?_, fun hn => ?_⟩
    · rw [if_pos hy] at o
      exact ⟨c, A, H0, F, G, ρ, sr, nox_ok o⟩
    · have hne : ¬ subX c.nm E = true := by rw [hn]; exact Bool.false_ne_true
      rw [if_neg hne] at o k
      exact Hds.catch hcx r sr k o
theorem s_try (tk : Takes X W) (hb : ∀ (W' : WX) (pn : List (Addr × Obj)) (xe : Value → Shared → Prop), Takes (X.tr pn xe) W' → PassesOwn (model X.prog X.w) X.A X.env xe → PSs (X.tr pn xe) body (tS X.K CA W' sb))
    (hh : Hds X CA xs (h₀ :: hds) l) (hs : X.stack = X.env :: X.outer := by rfl) (hf : X.env.frame = some X.env.locals := by rfl) : PS X (.Try body (h₀ :: hds) [] [] pos) (tS X.K CA W (tryS xs sb l)) := by
  refine psI (ps_try_many hs hf tk hb hh.ok) fun D σ H ⟨A, H0, F, G, ρ, sr, h⟩ => ?_
  refine ⟨A, H0, F, G, ρ, sr, ?_⟩
  have h : OutOk X.K CA W A H0 G D (match sb ρ with
  | .ex c ρ' => if xs.contains c.nm = true then hanS c l ρ' else .st
  | o => o) := h
  cases ho : sb ρ with
  | nx ρ' => rw [ho] at h; exact h
  | rt k d => rw [ho] at h; exact h
  | bk ρ' => rw [ho] at h; exact h
  | ct ρ' => rw [ho] at h; exact h
  | st => rw [ho] at h; exact h.elim
  | ri ρ' k d => rw [ho] at h; exact h
  | ex c ρ' =>
    rw [ho] at h
    by_cases hc : xs.contains c.nm = true
    · simp only [hc, if_true] at h
      have hc' : c.nm ∈ xs := by simpa using hc
      intro σ' H' F' sr'
      cases c with
      | n nm => exact hh.catch (c := .n nm) hc' sr' (fun e o => by rw [e] at o; exact o σ' H' F' sr') h
      | p nm fld d => exact fun dx v hdx rv => hh.catch (c := .p nm fld d) hc' sr' (fun e o => by rw [e] at o; exact o σ' H' F' sr' dx v hdx rv) h
    · simp only [hc, if_false, Bool.false_eq_true] at h
      exact h.elim
end
theorem exAll_nil {P : String → Prop} : ∀ c ∈ ([] : List String), P c := fun _ h => nomatch h
theorem exAll_cons {K : PySem.W.Frag} {CA : String → Addr} {c D : String} {b : Bool} {l : List String} (h : PySem.W.exmOne K (.ref (CA c)) (.ref (CA D)) = some b) (r : ∀ c ∈ l, PySem.W.exmOne K (.ref (CA c)) (.ref (CA D)) = some (subX c D)) (hb : subX c D = b := by decide) :
    ∀ x ∈ c :: l, PySem.W.exmOne K (.ref (CA x)) (.ref (CA D)) = some (subX x D) := fun x hx => by
  rcases List.mem_cons.mp hx with e | e
  · subst e; rw [hb]; exact h
  · exact r x e
theorem exm_of {K : PySem.W.Frag} {h : Heap} {mg : Str → Option Value} {C D : Addr} {x y : String} {b : Bool} (X : K.In h) (G : h.Ns mainGlobals mg) (a : PySem.W.nsIn K mainGlobals (Str.ofString x) = some (some (.ref C))) (a' : PySem.W.nsIn K mainGlobals (Str.ofString y) = some (some (.ref D)))
    (e : PySem.W.exmOne K (.ref C) (.ref D) = some b) : PySem.W.exmOne K (.ref (caOf mg x)) (.ref (caOf mg y)) = some b := by
  have e1 : mg (Str.ofString x) = some (.ref C) := PySem.W.mg_of X G a
  have e2 : mg (Str.ofString y) = some (.ref D) := PySem.W.mg_of X G a'
  have e3 : caOf mg x = C := by unfold caOf; rw [e1]
  have e4 : caOf mg y = D := by unfold caOf; rw [e2]
  rw [e3, e4]; exact e
theorem exm_by {K : PySem.W.Frag} {C D : Addr} {b : Bool} (h1 : PySem.W.subIn K (.ref D) (.type "BaseException") = some true) (h2 : PySem.W.isClsIn K D = true) (h3 : PySem.W.typeIn K (.ref D) = some (.type "type")) (h4 : PySem.W.subIn K (.ref C) (.ref D) = some b) :
    PySem.W.exmOne K (.ref C) (.ref D) = some b := by
  have e1 : (PySem.W.subIn K (.ref D) (.type "BaseException") == some true) = true := by rw [h1]; rfl
  have e2 : ((PySem.W.clsIn K D).isSome && PySem.W.typeIn K (.ref D) == some (.type "type")) = true := by
    have h2' : (PySem.W.clsIn K D).isSome = true := h2
    rw [h2', h3]; rfl
  show (if (PySem.W.subIn K (.ref D) (.type "BaseException") == some true) = true then (if ((PySem.W.clsIn K D).isSome && PySem.W.typeIn K (.ref D) == some (.type "type")) = true then PySem.W.subIn K (.ref C) (.ref D) else none) else none) = some b
  rw [if_pos e1, if_pos e2]
  exact h4
/-! ### methods that only tell -/
/-- what is there, the arguments; told is a thing without nodes -/
abbrev QOp := D → List D → Option D
def mqE (T : MT) (s : SE) (r : SA) (op : QOp) : SE := fun ρ => (s ρ).bind fun x => if T.ok x.2 = true then (r ρ).bind fun xs => (R.of (op x.2 (xs.map (·.2)))).bind fun d => .ok (.own, d) else .st
def MqOk (K : PySem.W.Frag) (op : QOp) (r : V → List V → Hp → VK → Prop) : Prop :=
  ∀ {H : Hp} {d0 d : D} {ds : List D} {v : V} {vs : List V} {f0 g : List Addr} {Q : VK}, Rep K H d0 v f0 → Reps K H ds vs g → op d0 ds = some d → (∀ w, Rep K H d w [] → Q w H) → r v vs H Q
def idxN (p : PyData) : List PyData → Option Nat
  | [] => none
  | z :: r => if PyData.eqv z p = true then some 0 else (idxN p r).map (· + 1)
def opIdx : QOp := fun d xs => match d, xs with
  | .lst ds, [y] => (toPs ds).bind fun ps => (toP y).bind fun p => if SeqAt.shaped (.list ps) = true ∧ SeqAt.shaped p = true then (idxN p ps).map fun j : Nat => D.int j else none
  | _, _ => none
theorem idxN_spec {p : PyData} : ∀ {ps : List PyData} {j : Nat}, idxN p ps = some j → ∃ z, ps[j]? = some z ∧ PyData.eqv z p = true ∧ ∀ (m : Nat) (z' : PyData), m < j → ps[m]? = some z' → PyData.eqv z' p = false
  | [], j, h => by cases h
  | z :: r, j, h => by
    unfold idxN at h
    split at h
    · rename_i hz
      cases h
      exact ⟨z, rfl, hz, fun m _ hm => absurd hm (Nat.not_lt_zero _)⟩
    · rename_i hz
      cases hr : idxN p r with
      | none => rw [hr] at h; cases h
      | some i =>
        rw [hr] at h
        cases h
        obtain ⟨z', h1, h2, h3⟩ := idxN_spec hr
        refine ⟨z', by simpa using h1, h2, fun m w hm hw => ?_⟩
        cases m with
        | zero => cases hw; simpa using hz
        | succ m => exact h3 m w (Nat.lt_of_succ_lt_succ hm) (by simpa using hw)
theorem oq_idx {K : PySem.W.Frag} : MqOk K opIdx (rIndexD K) := by
  intro H d0 d ds v vs f0 g Q r0 rs e k
  unfold opIdx at e
  split at e
  · rename_i xs y
    cases h1 : toPs xs with
    | none => simp [h1] at e
    | some ps =>
      cases h2 : toP y with
      | none => simp [h1, h2] at e
      | some p =>
        simp only [h1, h2, Option.bind_some] at e
        split at e
        · rename_i hc
          cases hj : idxN p ps with
          | none => simp [hj] at e
          | some j =>
            simp only [hj, Option.map_some, Option.some.injEq] at e
            subst e
            obtain ⟨z, h3, h4, h5⟩ := idxN_spec hj
            obtain ⟨a, ws, g', rfl, t, q, _, _⟩ := r0.lstI
            obtain ⟨w, rfl, rw'⟩ := rs.one (d := y) rfl
            exact ⟨a, w, p, ps, j, z, rfl, rfl, .lst t (q.dp h1), rw'.dp h2, hc.1, hc.2, h3, h4, h5, k _ (.int _)⟩
        · cases e
  · cases e
section
variable {X : Cx} {CA : String → Addr} {W : WX} {p2 p3 : Pos} {e o : Expr} {es : List Expr} {se : SE} {s : SA} {op : QOp} {id : String} {name : Str} {r : V → List V → Hp → VK → Prop} {T : MT}
theorem e_mq (pa : PlainAttrs T.T) (slot : Slot T.T name id) (hty : typeOf (.builtin id) = pure (.type "method_descriptor")) (hm : MtR X id r) (hok : MqOk X.K op r) (ho : PE X o (tE X.K CA W se)) (ha : PA X (e :: es) (tA X.K CA W s)) (hbase : attributeBase o name X.env (eval o X.env) = eval o X.env := by rfl)
    (hfew : ((backTo p3 (starEach (e :: es) X.env)).all (fun x => !x.1) && (backToKw p3 (keywordEach [] X.env)).all (fun x => x.1.isSome) && decide ((e :: es).length + ([] : List Keyword).length + (if ([] : List Keyword).isEmpty then 0 else 1) < 30)) = true := by rfl)
    (hline : (p2.endLine == p3.line) = true := by rfl) (hst : starEach (e :: es) X.env = (false, eval e X.env) :: starEach es X.env := by rfl) (hplain : (backTo p3 (starEach es X.env)).any (·.1) = false := by rfl) :
    PE X (.Call (.Attribute o name p2) (e :: es) [] p3) (tE X.K CA W (mqE T se s op)) := by
  refine peI (pe_bm pa slot hty hm ho ha hbase hfew hline hst hplain) fun σ H Q ⟨A, H0, F, G, ρ, sr, h⟩ => ?_
  refine ⟨A, H0, F, G, ρ, sr, h.bind fun x h1 => ?_⟩
  by_cases hT : T.ok x.2 = true
  · rw [if_pos hT] at h1
    intro v H1 f s1 r1 o1
    refine ⟨MT.ty r1 hT, A, H0, F, G, ρ, sr.same s1, (h1.later s1).bind fun xs h2 => ?_⟩
    intro vs H2 g s2 rs os
    obtain ⟨d, e1, h3⟩ := h2.ofB
    exact hok (r1.same s2) rs e1 fun w rw' => Cont.atom h3 (s1.trans s2) rw'
  · rw [if_neg hT] at h1
    exact h1.elim
end
/-! ### sorted, ints -/
def insI (n : Int) : List Int → List Int
  | [] => [n]
  | m :: r => if n ≤ m then n :: m :: r else m :: insI n r
def srtI : List Int → List Int
  | [] => []
  | n :: r => insI n (srtI r)
theorem insI_perm (n : Int) : ∀ l : List Int, (insI n l).Perm (n :: l)
  | [] => .refl _
  | m :: r => by
    unfold insI
    split
    · exact .refl _
    · exact ((insI_perm n r).cons m).trans (.swap n m r)
theorem srtI_perm : ∀ l : List Int, (srtI l).Perm l
  | [] => .refl _
  | n :: r => (insI_perm n _).trans ((srtI_perm r).cons n)
theorem insI_sorted (n : Int) : ∀ {l : List Int}, l.Pairwise (· ≤ ·) → (insI n l).Pairwise (· ≤ ·)
  | [], _ => List.pairwise_singleton _ _
  | m :: r, h => by
    have h' := List.pairwise_cons.mp h
    unfold insI
    split
    · rename_i hz
      refine List.pairwise_cons.mpr ⟨fun x hx => ?_, h⟩
      rcases List.mem_cons.mp hx with e | e
      · omega
      · have := h'.1 x e; omega
    · rename_i hz
      refine List.pairwise_cons.mpr ⟨fun x hx => ?_, insI_sorted n h'.2⟩
      rcases List.mem_cons.mp ((insI_perm n r).mem_iff.mp hx) with e | e
      · omega
      · exact h'.1 x e
theorem srtI_sorted : ∀ l : List Int, (srtI l).Pairwise (· ≤ ·)
  | [] => List.Pairwise.nil
  | n :: r => insI_sorted n (srtI_sorted r)
theorem sorted_uniq : ∀ {l m : List Int}, l.Perm m → l.Pairwise (· ≤ ·) → m.Pairwise (· ≤ ·) → l = m
  | [], m, h, _, _ => (List.nil_perm.mp h).symm
  | a :: l, [], h, _, _ => absurd h.length_eq (by simp)
  | a :: l, b :: m, h, h1, h2 => by
    have p1 := List.pairwise_cons.mp h1
    have p2 := List.pairwise_cons.mp h2
    have e : a = b := by
      have ha := h.mem_iff.mp (List.mem_cons_self (a := a) (l := l))
      have hb := h.mem_iff.mpr (List.mem_cons_self (a := b) (l := m))
      rcases List.mem_cons.mp ha with e | e
      · exact e
      · rcases List.mem_cons.mp hb with e' | e'
        · exact e'.symm
        · have := p2.1 a e
          have := p1.1 b e'
          omega
    subst e
    rw [sorted_uniq (List.Perm.cons_inv h) p1.2 p2.2]
def bSrt : List KD → Option KD
  | [(_, .lst ds)] => (intsD ds).map fun ns => (.own, .lst ((srtI ns).map D.int))
  | _ => none
theorem oSrt {K : PySem.W.Frag} : BltOk K bSrt (rSortedI K) := by
  intro A H0 H H1 F G ρ σ Q xs vs g kd sr s1 r o e h
  unfold bSrt at e
  split at e
  · rename_i k ds
    obtain ⟨v, rfl, r0⟩ := r.one (d := .lst ds) rfl
    obtain ⟨a, ws, g', rfl, t, q, _, _⟩ := r0.lstI
    cases h1 : intsD ds with
    | none => rw [h1] at e; cases e
    | some ns =>
      rw [h1] at e
      simp only [Option.map_some, Option.some.injEq] at e
      subst e
      have ed := intsD_eq h1
      subst ed
      obtain ⟨e1, _⟩ := q.ints_inv
      subst e1
      refine ⟨a, ns, rfl, t, fun ns' p h2 h3 hp => ?_⟩
      have e2 := sorted_uniq (h2.trans (srtI_perm ns).symm) h3 (srtI_sorted ns)
      rw [e2]
      exact h.newL sr s1 (Reps.ints _) (KOk.nil _) hp
  · cases e
/-! ### len(set(..)), ints -/
def ddI : List Int → List Int
  | [] => []
  | n :: r => if n ∈ r then ddI r else n :: ddI r
theorem ddI_mem {k : Int} : ∀ {l : List Int}, k ∈ ddI l ↔ k ∈ l
  | [] => .rfl
  | n :: r => by
    unfold ddI
    split
    · rename_i h
      rw [ddI_mem, List.mem_cons]
      exact ⟨.inr, fun z => z.elim (fun e => e ▸ h) id⟩
    · rw [List.mem_cons, List.mem_cons, ddI_mem]
theorem ddI_nodup : ∀ l : List Int, (ddI l).Nodup
  | [] => List.nodup_nil
  | n :: r => by
    unfold ddI
    split
    · exact ddI_nodup r
    · rename_i h
      exact List.nodup_cons.mpr ⟨fun z => h (ddI_mem.mp z), ddI_nodup r⟩
theorem nodup_le {α : Type} : ∀ {l m : List α}, l.Nodup → (∀ x ∈ l, x ∈ m) → l.length ≤ m.length
  | [], m, _, _ => Nat.zero_le _
  | a :: l, m, h, hs => by
    have h' := List.nodup_cons.mp h
    obtain ⟨p, q, rfl⟩ := List.append_of_mem (hs a List.mem_cons_self)
    have := nodup_le (l := l) (m := p ++ q) h'.2 fun x hx => by
      have hx' := hs x (List.mem_cons_of_mem _ hx)
      have hne : x ≠ a := fun e => h'.1 (e ▸ hx)
      simp only [List.mem_append, List.mem_cons] at hx' ⊢
      rcases hx' with z | z | z
      · exact .inl z
      · exact absurd z hne
      · exact .inr z
    simp only [List.length_append, List.length_cons] at this ⊢
    omega
theorem nodup_len {α : Type} {l m : List α} (hl : l.Nodup) (hm : m.Nodup) (h : ∀ x, x ∈ l ↔ x ∈ m) : l.length = m.length :=
  Nat.le_antisymm (nodup_le hl fun x hx => (h x).mp hx) (nodup_le hm fun x hx => (h x).mpr hx)
theorem firstMet_ok (ns : List Int) : ∀ i, i ≤ ns.length → (firstMet (fun i => ns.getD i 0) i).Nodup ∧ ∀ k, k ∈ firstMet (fun i => ns.getD i 0) i ↔ k ∈ ns.take i
  | 0, _ => ⟨List.nodup_nil, fun k => by simp [firstMet_zero]⟩
  | i + 1, h => by
    obtain ⟨h1, h2⟩ := firstMet_ok ns i (by omega)
    have hi : i < ns.length := by omega
    have e : ns.getD i 0 = ns[i] := by rw [List.getD_eq_getElem?_getD, List.getElem?_eq_getElem hi]; rfl
    rw [firstMet_succ, List.take_add_one, List.getElem?_eq_getElem hi]
    simp only [e]
    unfold step_dedup
    split
    · rename_i hz
      obtain ⟨y, hy, e2⟩ := List.any_eq_true.mp hz
      have e3 : y = ns[i] := by simpa using e2
      subst e3
      refine ⟨h1, fun k => ?_⟩
      rw [h2]
      simp only [Option.toList_some, List.mem_append, List.mem_singleton]
      exact ⟨.inl, fun z => z.elim id fun e => e ▸ (h2 _).mp hy⟩
    · rename_i hz
      have hn : ns[i] ∉ firstMet (fun i => ns.getD i 0) i := fun z => hz (List.any_eq_true.mpr ⟨_, z, by simp⟩)
      refine ⟨List.nodup_append.mpr ⟨h1, by simp, fun a ha b hb e => hn (by
        have : b = ns[i] := by simpa using hb
        rw [← this, ← e]; exact ha)⟩, fun k => ?_⟩
      rw [List.mem_append, h2, List.mem_append]
      simp
/-- len(set(e)) -/
def lsetE (a : SE) : SE := fun ρ => (a ρ).bind fun x => match x.2 with
  | .lst ds => (match intsD ds with
    | some ns => if ns.length ≤ 1000 then .ok (.own, .int (ddI ns).length) else .st
    | none => .st)
  | .tup ds => (match intsD ds with
    | some ns => if ns.length ≤ 1000 then .ok (.own, .int (ddI ns).length) else .st
    | none => .st)
  | _ => .st
def tLset (K : PySem.W.Frag) (ta : TE) : TE := fun σ H Q => ta σ H fun x H1 => ∃ (l : Addr) (ns : List Int), x = .ref l ∧ (SqL K H1 l (ns.map V.int) ∨ SqT K H1 l (ns.map V.int)) ∧ ns.length ≤ 1000 ∧ Q (.int (ddI ns).length) H1
section
variable {X : Cx} {CA : String → Addr} {W : WX} {pos p p2 q : Pos} {a : Expr} {sa : SE}
theorem pe_lset {ta : TE} (hc : X.calm = true) (hg : Gl X "len") (hm : X.mg "len" = none) (hg2 : Gl X "set") (hm2 : X.mg "set" = none) (ha : PE X a ta)
    (na : starEach [a] X.env = (false, eval a X.env) :: starEach [] X.env := by rfl) : PE X (.Call (.Name "len" p) [.Call (.Name "set" p2) [a] [] q] [] pos) (tLset X.K ta) := by
  refine ⟨fun pins s σ H Q I h => ?_⟩
  refine Call_ (ld_blt I hg hm PySem.boot_len ?_)
  refine PyProof.Rows.callWith_builtin1 (PyProof.Rows.args_cons ?_ rfl) rfl rfl
  refine Call_ (ld_blt I hg2 hm2 PyProof.Rows.boot_set ?_)
  refine PyProof.Rows.callWith_type1 (PyProof.Rows.args_cons (thn (ha.run pins s σ H _ I h) fun v s1 ⟨x, H1, I1, r1, q1⟩ => PyProof.Rows.args_nil ?_) na) na rfl
  obtain ⟨l, ns, rfl, hq, h1, q1⟩ := q1
  cases r1
  rcases hq with hq | hq
  · obtain ⟨its, r, pl, hz⟩ := I1.list hq
    have hl : its.toArray.size = ns.length := by rw [List.size_toArray, ← r.length, List.length_map]
    refine call_set_list (I1.ok.hd hc) pl.isList (ns := ns) (by simpa using r.ints) (by unfold scanBound; omega) fun h' tk hS hk => ?_
    rw [hl] at hS
    obtain ⟨f1, f2⟩ := firstMet_ok ns ns.length (Nat.le_refl _)
    have el : (firstMet (fun i => ns.getD i 0) ns.length).length = (ddI ns).length := nodup_len f1 (ddI_nodup ns) fun k => by rw [f2, List.take_length, ddI_mem]
    refine PyProof.Rows.args_nil ?_
    obtain ⟨o, es, ep, t, ho, hex, hd, _, _, hb, hf, hn⟩ := hS
    have I2 : Inv X pins σ H1 { s1 with heap := h', toks := tk } := I1.kept fun b o e => hk b o (Heap.lt_size e) e
    have hbb : es.size < 2 ^ 63 := by unfold scanBound at hb; omega
    refine call_len_set ho hex hd hf (by exact_mod_cast hbb) ⟨.int (ddI ns).length, H1, I2.tok _, ⟨_, by rw [hn, el]⟩, q1⟩
  · obtain ⟨its, r, pl, hz⟩ := I1.tuple hq
    refine call_set_tupI ns (I1.ok.hd hc) pl (by simpa using r.ints) (by unfold scanBound; omega) fun h' tk c hS hc' hk => ?_
    refine PyProof.Rows.args_nil ?_
    obtain ⟨o, es, ep, t, ho, hex, hd, _, nd, mm, hb, hf, hn, _⟩ := hS
    have el : es.size = (ddI ns).length := by
      have := nodup_len nd (ddI_nodup ns) fun k => by rw [← mm, ddI_mem]; simp
      rw [List.length_map] at this
      simpa using this
    have I2 : Inv X pins σ H1 { s1 with heap := h', toks := tk } := I1.kept fun b o e => hk b o e
    have hbb : es.size < 2 ^ 63 := by unfold scanBound at hb; omega
    refine call_len_set ho hex hd hf (by exact_mod_cast hbb) ⟨.int (ddI ns).length, H1, I2.tok _, ⟨_, by rw [el]⟩, q1⟩
theorem e_lset (hc : X.calm = true) (hm : X.mg "len" = none) (hm2 : X.mg "set" = none) (ha : PE X a (tE X.K CA W sa)) (hg : Gl X "len" := by rfl) (hg2 : Gl X "set" := by rfl)
    (na : starEach [a] X.env = (false, eval a X.env) :: starEach [] X.env := by rfl) : PE X (.Call (.Name "len" p) [.Call (.Name "set" p2) [a] [] q] [] pos) (tE X.K CA W (lsetE sa)) := by
  refine peI (pe_lset hc hg hm hg2 hm2 ha na) fun σ H Q ⟨A, H0, F, G, ρ, sr, h⟩ => ?_
  refine ⟨A, H0, F, G, ρ, sr, h.bind fun ⟨k, d⟩ h1 => ?_⟩
  intro v H1 f s1 r o
  cases d with
  | lst ds =>
    simp only at h1
    cases e1 : intsD ds with
    | none => rw [e1] at h1; exact h1.elim
    | some ns =>
      rw [e1] at h1
      simp only at h1
      split at h1
      · rename_i hz
        have ed := intsD_eq e1
        subst ed
        obtain ⟨a, ws, g', rfl, t, q, _, _⟩ := r.lstI
        obtain ⟨e2, _⟩ := q.ints_inv
        subst e2
        exact ⟨a, ns, rfl, .inl t, hz, Cont.atom h1 s1 (.int _)⟩
      · exact h1.elim
  | tup ds =>
    simp only at h1
    cases e1 : intsD ds with
    | none => rw [e1] at h1; exact h1.elim
    | some ns =>
      rw [e1] at h1
      simp only at h1
      split at h1
      · rename_i hz
        have ed := intsD_eq e1
        subst ed
        obtain ⟨a, ws, rfl, t, q⟩ := r.tupI
        obtain ⟨e2, _⟩ := q.ints_inv
        subst e2
        exact ⟨a, ns, rfl, .inr (.of t), hz, Cont.atom h1 s1 (.int _)⟩
      · exact h1.elim
  | _ => exact h1.elim
end
end Cz
set_option maxHeartbeats 2000000
/-! Cz16: x = y, where x takes what y owned. -/
namespace Cz
open PySem PySem.Spec PyProof.Rows L2
def rlb (j i : Nat) : Sl → Sl
  | .bo is d => .bo (is.map fun x => if x = j then i else x) d
  | s => s
def mvS (i j : Nat) : SS := fun ρ => match ρ[j]? with
  | some (.ow d) => if i ≠ j ∧ i < ρ.length then .nx (((ρ.map (rlb j i)).set j (.bo [i] d)).set i (.ow d)) else .st
  | some (.bo is d) => .nx (ρ.set i (mkS (.bor is) d))
  | _ => .st
section
variable {K : PySem.W.Frag} {A : Addr → Prop} {H0 H : Hp} {F : Nat → List Addr} {G : List (D × V)} {ρ : Env} {σ : L2.St}
theorem SR.move {i j : Nat} {d : D} {v : V} (sr : SR K A H0 F G ρ σ H) (hij : i ≠ j) (hi : i < ρ.length) (hd : ρ[j]? = some (.ow d)) (hv : σ[j]? = some (some v)) (r : Rep K H d v (F j)) :
    SR K A H0 (updF (updF F j []) i (F j)) G (((ρ.map (rlb j i)).set j (.bo [i] d)).set i (.ow d)) (σ.set i (some v)) H := by
  have hji : j ≠ i := Ne.symm hij
  have Fi : updF (updF F j []) i (F j) i = F j := updF_same
  have Fj : updF (updF F j []) i (F j) j = [] := by rw [updF_ne hji, updF_same]
  have Fo : ∀ k, k ≠ i → k ≠ j → updF (updF F j []) i (F j) k = F k := fun k h1 h2 => by rw [updF_ne h1, updF_ne h2]
  have sub : ∀ k a, a ∈ updF (updF F j []) i (F j) k → ∃ m, a ∈ F m := fun k a h => by
    by_cases h1 : k = i
    · subst h1; rw [Fi] at h; exact ⟨_, h⟩
    · by_cases h2 : k = j
      · subst h2; rw [Fj] at h; cases h
      · rw [Fo k h1 h2] at h; exact ⟨_, h⟩
  have sh : ∀ {a : Addr}, Sh A H0 F a → Sh A H0 (updF (updF F j []) i (F j)) a := fun {a} h => ⟨h.1, fun k hk => let ⟨m, hm⟩ := sub k a hk; h.2 m hm⟩
  have hjl : j < ρ.length := (List.getElem?_eq_some_iff.mp hd).1
  have at' : ∀ k, (((ρ.map (rlb j i)).set j (.bo [i] d)).set i (.ow d))[k]? = if k = i then some (.ow d) else if k = j then some (.bo [i] d) else ρ[k]?.map (rlb j i) := fun k => by
    by_cases h1 : k = i
    · subst h1; rw [if_pos rfl, List.getElem?_set_self (by simpa using hi)]
    · rw [if_neg h1, List.getElem?_set_ne (Ne.symm h1)]
      by_cases h2 : k = j
      · subst h2; rw [if_pos rfl, List.getElem?_set_self (by simpa using hjl)]
      · rw [if_neg h2, List.getElem?_set_ne (Ne.symm h2), List.getElem?_map]
  refine ⟨by simpa using sr.len, sr.fr, fun k => ?_, fun k m a hk hm => ?_, fun k d' e => ?_, fun k is d' e => ?_, fun p hp => ?_, fun k hk hn => ?_, fin_upd (fin_upd sr.fin)⟩
  · by_cases h1 : k = i
    · subst h1; rw [Fi]; exact sr.own j
    · by_cases h2 : k = j
      · subst h2; rw [Fj]; exact ⟨List.nodup_nil, fun a ha => nomatch ha⟩
      · rw [Fo k h1 h2]; exact sr.own k
  · have src : ∀ k, a ∈ updF (updF F j []) i (F j) k → (k = i ∧ a ∈ F j) ∨ (k ≠ i ∧ k ≠ j ∧ a ∈ F k) := fun k h => by
      by_cases h1 : k = i
      · subst h1; rw [Fi] at h; exact .inl ⟨rfl, h⟩
      · by_cases h2 : k = j
        · subst h2; rw [Fj] at h; cases h
        · rw [Fo k h1 h2] at h; exact .inr ⟨h1, h2, h⟩
    rcases src k hk with ⟨e1, q1⟩ | ⟨e1, e1', q1⟩ <;> rcases src m hm with ⟨e2, q2⟩ | ⟨e2, e2', q2⟩
    · rw [e1, e2]
    · exact absurd (sr.dis m j a q2 q1) e2'
    · exact absurd (sr.dis k j a q1 q2) e1'
    · exact sr.dis k m a q1 q2
  · rw [at'] at e
    by_cases h1 : k = i
    · subst h1
      rw [if_pos rfl] at e; cases e
      exact ⟨v, by rw [List.getElem?_set_self (by rw [← sr.len]; exact hi)], by rw [Fi]; exact r⟩
    · rw [if_neg h1] at e
      by_cases h2 : k = j
      · subst h2; rw [if_pos rfl] at e; cases e
      · rw [if_neg h2] at e
        rw [List.getElem?_set_ne (Ne.symm h1), Fo k h1 h2]
        cases hs : ρ[k]? with
        | none => rw [hs] at e; cases e
        | some s =>
          rw [hs] at e
          cases s with
          | no => cases e
          | ow d2 => cases e; exact sr.slo k _ hs
          | bo is d2 => cases e
  · rw [at'] at e
    by_cases h1 : k = i
    · subst h1; rw [if_pos rfl] at e; cases e
    · rw [if_neg h1] at e
      rw [List.getElem?_set_ne (Ne.symm h1)]
      by_cases h2 : k = j
      · subst h2
        rw [if_pos rfl] at e; cases e
        exact ⟨v, F k, hv, r, fun a ha => .inl ⟨i, by simp, by rw [Fi]; exact ha⟩⟩
      · rw [if_neg h2] at e
        cases hs : ρ[k]? with
        | none => rw [hs] at e; cases e
        | some s =>
          rw [hs] at e
          cases s with
          | no => cases e
          | ow d2 => cases e
          | bo is0 d2 =>
            cases e
            obtain ⟨v2, f, h3, h4, h5⟩ := sr.slb k is0 _ hs
            refine ⟨v2, f, h3, h4, fun a ha => ?_⟩
            rcases h5 a ha with ⟨m, hm, q⟩ | q
            · by_cases e1 : m = j
              · subst e1
                exact .inl ⟨i, List.mem_map.mpr ⟨m, hm, by simp⟩, by rw [Fi]; exact q⟩
              · by_cases e2 : m = i
                · subst e2
                  refine .inr ⟨.inr ((sr.own m).2 a q).1, fun n hn => ?_⟩
                  by_cases e3 : n = m
                  · subst e3; rw [Fi] at hn; exact e1 (sr.dis n j a q hn)
                  · by_cases e4 : n = j
                    · subst e4; rw [Fj] at hn; cases hn
                    · rw [Fo n e3 e4] at hn; exact e3 (sr.dis n m a hn q)
                · exact .inl ⟨m, List.mem_map.mpr ⟨m, hm, by simp [e1]⟩, by rw [Fo m e2 e1]; exact q⟩
            · exact .inr (sh q)
  · obtain ⟨f, h1, h2⟩ := sr.gho p hp
    exact ⟨f, h1, fun a ha => sh (h2 a ha)⟩
  · rw [at']
    by_cases h1 : k = i
    · subst h1; exact ⟨d, by rw [if_pos rfl]⟩
    · rw [if_neg h1]
      by_cases h2 : k = j
      · subst h2; rw [Fj] at hn; exact absurd rfl hn
      · rw [if_neg h2]
        rw [Fo k h1 h2] at hn
        obtain ⟨d2, e2⟩ := sr.emp k (by simpa using hk) hn
        exact ⟨d2, by rw [e2]; rfl⟩
end
section
variable {X : Cx} {CA : String → Addr} {W : WX} {pos p1 p2 : Pos}
theorem s_mv (i j : Nat) {x y : Str} (hN : X.N.Nodup) (hi : X.N[i]? = some x := by rfl) (hj : X.N[j]? = some y := by rfl) (hx : Loc X.env.scope x := by first | exact Or.inl rfl | exact Or.inr rfl) (hs : swapsWith (.Name y p2) (some (.Name x p1)) pos.line X.env = pure false := by rfl)
    (hf : X.fn x = true ∨ X.env.scope.names.lookup x = some .local := by first | exact .inl rfl | exact .inr rfl | assumption)
    (hv : Vis X.env.scope y := by first | exact Or.inl rfl | exact Or.inr (Or.inl rfl) | exact Or.inr (Or.inr rfl)) (hd : (y == ("__debug__" : Str)) = false := by decide) (hcd : (y == ("__classdict__" : Str)) = false := by decide) :
    PS X (.Assign [.Name x p1] (.Name y p2) pos) (tS X.K CA W (mvS i j)) := by
  refine psI (ps_set hN hi hx (pe_var hj hv hd hcd) hs hf) fun D σ H ⟨A, H0, F, G, ρ, sr, h⟩ => ?_
  have h : OutOk X.K CA W A H0 G D (mvS i j ρ) := h
  unfold mvS at h
  cases e : ρ[j]? with
  | none => rw [e] at h; exact h.elim
  | some s =>
    rw [e] at h
    cases s with
    | no => exact h.elim
    | ow d =>
      obtain ⟨v, hv, r⟩ := sr.slo j d e
      by_cases hc : i ≠ j ∧ i < ρ.length
      · simp only [if_pos hc] at h
        exact ⟨v, hv, h _ _ _ (sr.move hc.1 hc.2 e hv r)⟩
      · simp only [if_neg hc] at h
        exact h.elim
    | bo is d =>
      obtain ⟨v, f, hv, r, b⟩ := sr.slb j is d e
      obtain ⟨f', sr', _⟩ := sr.set (k := .bor is) (Same.refl H) r b i
      exact ⟨v, hv, h _ _ _ sr'⟩
end
/-- tuple(range(..)) -/
noncomputable def trgE (r : SRg) : SE := fun ρ => (r ρ).bind fun x => if (rgOk x.1 && rgOk x.2) = true ∧ (x.2 - x.1).toNat ≤ LIM then .ok (.own, .tup (rng x.1 (x.2 - x.1).toNat)) else .st
section
variable {X : Cx} {CA : String → Addr} {W : WX} {pos p : Pos} {e : Expr} {r : SRg}
theorem e_trg (hc : X.calm = true) (hm : X.mg "tuple" = none) (he : PRg X e (tR X.K CA W r)) (hg : Gl X "tuple" := by rfl) (na : starEach [e] X.env = (false, eval e X.env) :: starEach [] X.env := by rfl) : PE X (.Call (.Name "tuple" p) [e] [] pos) (tE X.K CA W (trgE r)) := by
  refine peI (pe_tupRg hc hg hm he na) fun σ H Q ⟨A, H0, F, G, ρ, sr, h⟩ => ?_
  refine ⟨A, H0, F, G, ρ, sr, h.bind fun ⟨i, j⟩ h1 => ?_⟩
  intro H1 s1
  obtain ⟨⟨hz, hn⟩, h2⟩ := h1.ite
  have hz' := Bool.and_eq_true_iff.mp hz
  have hl : (j - i).toNat ≤ 2 ^ 24 := hn
  refine ⟨⟨rgOk_lo hz'.1, rgOk_hi hz'.1, rgOk_lo hz'.2, rgOk_hi hz'.2, hl⟩, fun q nq => ?_⟩
  have e1 : rng i (j - i).toNat = ((List.range (j - i).toNat).map fun (m : Nat) => i + (m : Int)).map D.int := by simp [rng]
  have e2 : rgV i j = ((List.range (j - i).toNat).map fun (m : Nat) => i + (m : Int)).map V.int := by simp [rgV]
  rw [e1] at h2
  rw [e2]
  exact Cont.newT h2 s1 (Reps.ints _) (KOk.nil _) nq
end
end Cz
set_option maxHeartbeats 2000000
/-! Cz17: a def as a value; a call of a slot that holds one. -/
namespace Cz
open PySem PySem.Spec PyProof.Rows L2
section
variable {X : Cx} {CA : String → Addr} {W : WX} {pos p : Pos} {x : String}
/-- a def's name as a value -/
structure FnV (K : PySem.W.Frag) (mg : Str → Option Value) (x : String) : Prop where
  is : ∃ f, mg (Str.ofString x) = some (.ref f) ∧ PySem.W.nsIn K mainGlobals (Str.ofString x) = some (some (.ref f))
theorem e_fnv (h : FnV X.K X.mg x) (hg : Gl X (Str.ofString x) := by rfl) (hd : (Str.ofString x == ("__debug__" : Str)) = false := by decide) : PE X (.Name (Str.ofString x) pos) (tE X.K CA W (conE (.fn x))) := by
  obtain ⟨f, hm, hk⟩ := h.is
  refine peI (pe_glob (v := .ref f) hg hm rfl hd) fun σ H Q ⟨A, H0, F, G, ρ, sr, h⟩ => ?_
  exact h (.ref f) H [] (Same.refl H) (.fn hk) (KOk.nil _)
end
/-- x(e, ..), x a slot that holds one of these defs -/
def callV (i : Nat) (cs : List (String × Fn)) (s : SA) : SE := fun ρ => match slD ρ[i]? with
  | some (.fn x) => (match cs.lookup x with
    | some fn => callE fn s [] ρ
    | none => .st)
  | _ => .st
section
variable {X : Cx} {CA : String → Addr} {W : WX} {pos p : Pos} {y : Str} {e : Expr} {es : List Expr} {s : SA} {cs : List (String × Fn)} {k i : Nat}
theorem e_callV (i : Nat) (tk : Takes X W) (hr : Room k X.A) (hcs : ∀ x fn, cs.lookup x = some fn → (∃ k', k' ≤ k ∧ FnIs X CA fn k' x []) ∧ FnV X.K X.mg x) (ha : PA X (e :: es) (tA X.K CA W s)) (hN : X.N[i]? = some y := by rfl) (hv : Vis X.env.scope y := by first | exact Or.inl rfl | exact Or.inr (Or.inl rfl) | exact Or.inr (Or.inr rfl))
    (hdb : (y == ("__debug__" : Str)) = false := by decide) (hcd : (y == ("__classdict__" : Str)) = false := by decide)
    (he : starEach (e :: es) X.env = (false, eval e X.env) :: starEach es X.env := by rfl) (hpl : (backTo pos (starEach es X.env)).any (·.1) = false := by rfl) : PE X (.Call (.Name y p) (e :: es) [] pos) (tE X.K CA W (callV i cs s)) := by
  refine ⟨fun pins st σ H Q I h => ?_⟩
  obtain ⟨A, H0, F, G, ρ, sr, h⟩ := h
  have h : Post X.K CA W σ H (callV i cs s ρ) fun kd => Cont X.K A H0 F H kd Q := h
  unfold callV at h
  cases hs : slD ρ[i]? with
  | none => rw [hs] at h; exact h.elim
  | some d =>
    rw [hs] at h
    cases d with
    | fn x =>
      simp only at h
      cases hl : cs.lookup x with
      | none => rw [hl] at h; exact h.elim
      | some fn =>
        rw [hl] at h
        obtain ⟨⟨k', hkk, hf⟩, hV⟩ := hcs x fn hl
        obtain ⟨f, fd, ps, dvs, ds, hm, Fn, hk, hb, hd, hdd, hz⟩ := hf.is
        obtain ⟨f', hm', hk'⟩ := hV.is
        have ef : f' = f := by rw [hm] at hm'; cases hm'; rfl
        subst ef
        have slot : σ[i]? = some (some (.ref f')) := by
          cases e1 : ρ[i]? with
          | none => rw [e1] at hs; cases hs
          | some sl =>
            rw [e1] at hs
            cases sl with
            | no => cases hs
            | ow d =>
              cases hs
              obtain ⟨v, h1, h2⟩ := sr.slo i _ e1
              obtain ⟨g, hg⟩ : ∃ g, F i = g := ⟨_, rfl⟩
              rw [hg] at h2
              cases h2 with
              | fn q => rw [hk'] at q; cases q; exact h1
            | bo is d =>
              cases hs
              obtain ⟨v, g, h1, h2, _⟩ := sr.slb i _ _ e1
              cases h2 with
              | fn q => rw [hk'] at q; cases q; exact h1
        refine wpAny_Call_Name_kw (thn ((pe_var (pos := p) hN hv hdb hcd).run pins st σ H (fun v H1 => v = .ref f' ∧ H1 = H) I ⟨.ref f', slot, rfl, rfl⟩) fun u s1 ⟨v, H1, I1, r1, q1⟩ => ?_)
        obtain ⟨rfl, rfl⟩ := q1
        cases r1
        have ht : tA X.K CA W s σ H1 fun vs H2 => spF X.K CA fn ps.length (vs ++ dvs) H2 Q (fun cls d H' => W cls d σ H') := by
          refine ⟨A, H0, F, G, ρ, sr, Post.bind h fun xs h1 => ?_⟩
          intro vs H2 f1 s1 r o
          refine call_ok sr s1 r o (hdd H2) ?_ (h1.later s1)
          have r2 := r.app (hdd H2)
          rw [← r2.length]
          refine hz _ fun z => ?_
          rw [z] at h1
          exact h1
        refine PySem.W.callWith_K (h₀ := X.base) I.ok.mod.kin hk (thn (ha.run pos pins s1 σ _ _ I1 ht) fun us s2 ⟨vs, H2, I2, r, q⟩ => ⟨I2.kIn, ?_⟩) he hpl
        exact run_fnSD (E := fun σ cls d H' => W cls d σ H') Fn (hr.mono hkk) hb hd (passAt tk σ) I2 r q
    | _ => exact h.elim
end
section
variable {X : Cx} {CA : String → Addr} {k : Nat}
theorem csNil : ∀ x fn, ([] : List (String × Fn)).lookup x = some fn → (∃ k', k' ≤ k ∧ FnIs X CA fn k' x []) ∧ FnV X.K X.mg x := fun x fn h => nomatch h
theorem csCons {y : String} {g : Fn} {cs : List (String × Fn)} {k' : Nat} (h : FnIs X CA g k' y []) (hk : k' ≤ k) (v : FnV X.K X.mg y) (r : ∀ x fn, cs.lookup x = some fn → (∃ k', k' ≤ k ∧ FnIs X CA fn k' x []) ∧ FnV X.K X.mg x) :
    ∀ x fn, ((y, g) :: cs).lookup x = some fn → (∃ k', k' ≤ k ∧ FnIs X CA fn k' x []) ∧ FnV X.K X.mg x := fun x fn e => by
  rw [List.lookup_cons] at e
  split at e
  · rename_i q
    cases e
    have : x = y := by simpa using q
    subst this
    exact ⟨⟨k', hk, h⟩, v⟩
  · exact r x fn e
end
end Cz
set_option maxHeartbeats 2000000
/-! Cz18: tuples of ints sorted; dicts whose keys are tuples. -/
namespace Cz
open PySem PySem.Spec PyProof.Rows L2
/-! ### the order of rows -/
theorem lx_irr : ∀ a : List Int, HT.lexLt a a = false
  | [] => rfl
  | x :: a => by rw [HT.lexLt_cons, if_pos rfl, lx_irr a]
theorem lx_trans : ∀ (a b c : List Int), HT.lexLt a b = true → HT.lexLt b c = true → HT.lexLt a c = true
  | [], [], _, h, _ => by cases h
  | [], _ :: _, [], _, h => by cases h
  | [], _ :: _, _ :: _, _, _ => rfl
  | _ :: _, [], _, h, _ => by cases h
  | _ :: _, _ :: _, [], _, h => by cases h
  | x :: a, y :: b, z :: c, h, k => by
    rw [HT.lexLt_cons] at h k ⊢
    by_cases e1 : x = y
    · rw [if_pos e1] at h
      by_cases e2 : y = z
      · rw [if_pos e2] at k; rw [if_pos (e1.trans e2)]; exact lx_trans a b c h k
      · rw [if_neg e2] at k; rw [if_neg (fun q => e2 (e1 ▸ q)), e1]; exact k
    · rw [if_neg e1] at h
      have h := of_decide_eq_true h
      by_cases e2 : y = z
      · rw [if_neg (fun q => e1 (q.trans e2.symm)), ← e2]; exact decide_eq_true h
      · rw [if_neg e2] at k
        have k := of_decide_eq_true k
        rw [if_neg (by omega)]; exact decide_eq_true (by omega)
theorem lx_asymm (a b : List Int) (h : HT.lexLt a b = true) : HT.lexLt b a = false := by
  cases q : HT.lexLt b a with
  | false => rfl
  | true => have := lx_trans a b a h q; rw [lx_irr] at this; cases this
theorem lx_tot : ∀ (a b : List Int), HT.lexLt a b = false → HT.lexLt b a = false → a = b
  | [], [], _, _ => rfl
  | [], _ :: _, h, _ => by cases h
  | _ :: _, [], _, h => by cases h
  | x :: a, y :: b, h, k => by
    rw [HT.lexLt_cons] at h k
    by_cases e : x = y
    · rw [if_pos e] at h; rw [if_pos e.symm] at k; rw [e, lx_tot a b h k]
    · rw [if_neg e] at h; rw [if_neg fun z => e z.symm] at k
      have h := of_decide_eq_false h
      have k := of_decide_eq_false k
      omega
theorem lx_ntr (a b c : List Int) (h1 : HT.lexLt b a = false) (h2 : HT.lexLt c b = false) : HT.lexLt c a = false := by
  cases q : HT.lexLt c a with
  | false => rfl
  | true =>
    cases r : HT.lexLt a b with
    | true => rw [lx_trans c a b q r] at h2; cases h2
    | false => have := lx_tot a b r h1; subst this; rw [q] at h2; cases h2
/-! sorted, once -/
def insT (r : List Int) : List (List Int) → List (List Int)
  | [] => [r]
  | q :: l => if HT.lexLt q r = true then q :: insT r l else r :: q :: l
def srtT : List (List Int) → List (List Int)
  | [] => []
  | r :: l => insT r (srtT l)
theorem insT_perm (r : List Int) : ∀ l : List (List Int), (insT r l).Perm (r :: l)
  | [] => .refl _
  | q :: l => by
    unfold insT
    split
    · exact ((insT_perm r l).cons q).trans (.swap r q l)
    · exact .refl _
theorem srtT_perm : ∀ l : List (List Int), (srtT l).Perm l
  | [] => .refl _
  | r :: l => (insT_perm r _).trans ((srtT_perm l).cons r)
theorem insT_sorted (r : List Int) : ∀ {l : List (List Int)}, (l.Pairwise fun a b => HT.lexLt b a = false) → (insT r l).Pairwise fun a b => HT.lexLt b a = false
  | [], _ => by simp [insT]
  | q :: l, h => by
    rw [List.pairwise_cons] at h
    unfold insT
    split
    · rename_i hq
      refine List.pairwise_cons.mpr ⟨fun b hb => ?_, insT_sorted r h.2⟩
      rcases List.mem_cons.mp ((insT_perm r l).mem_iff.mp hb) with e | e
      · rw [e]; exact lx_asymm _ _ hq
      · exact h.1 b e
    · rename_i hq
      have hq : HT.lexLt q r = false := by simpa using hq
      refine List.pairwise_cons.mpr ⟨fun b hb => ?_, List.pairwise_cons.mpr h⟩
      rcases List.mem_cons.mp hb with e | e
      · rw [e]; exact hq
      · exact lx_ntr r q b hq (h.1 b e)
theorem srtT_sorted : ∀ l : List (List Int), (srtT l).Pairwise fun a b => HT.lexLt b a = false
  | [] => .nil
  | r :: l => insT_sorted r (srtT_sorted l)
theorem sortedT_uniq : ∀ {l m : List (List Int)}, l.Perm m → (l.Pairwise fun a b => HT.lexLt b a = false) → (m.Pairwise fun a b => HT.lexLt b a = false) → l = m
  | [], m, h, _, _ => (List.nil_perm.mp h).symm
  | a :: l, [], h, _, _ => by cases List.perm_nil.mp h
  | a :: l, b :: m, h, h1, h2 => by
    rw [List.pairwise_cons] at h1 h2
    have e : a = b := by
      have ha : a ∈ b :: m := h.mem_iff.mp List.mem_cons_self
      have hb : b ∈ a :: l := h.mem_iff.mpr List.mem_cons_self
      rcases List.mem_cons.mp ha with z | z
      · exact z
      · rcases List.mem_cons.mp hb with w | w
        · exact w.symm
        · exact lx_tot a b (h2.1 a z) (h1.1 b w)
    subst e
    rw [sortedT_uniq h.cons_inv h1.2 h2.2]
end Cz
/-! ### the machine sorts tuples -/
namespace Cz.St
open PySem PySem.Spec PyProof.Rows L2 SrtO
section
variable {prog : Program} {w : World} {A : Around} {E : Value → Shared → Prop} {s : Shared} {Q : Bool → Shared → Prop}
theorem lex_any {b : Bool} {xs ys : List Value} {ns ms : List Int} (i : Nat) (hx : IntsAre xs ns) (hy : IntsAre ys ms) (hl : ns.length = ms.length) (h : Q (HT.lexLt ns ms) s) : PySem.W.KatLex prog w A b false Q (xs.zip ys) i s := by
  induction hx generalizing ys ms i with
  | nil =>
    cases hy with
    | nil => exact PySem.W.kat_nil h
    | cons q u hy => simp at hl
  | @cons p t xs ns hx ih =>
    cases hy with
    | nil => simp at hl
    | @cons q u ys ms hy =>
      have hl' : ns.length = ms.length := by simpa using hl
      show PySem.W.KatLex prog w A b false Q ((Value.int p t, Value.int q u) :: xs.zip ys) i s
      refine PySem.W.kat_cons (wpAny_eqBool_int ?_)
      by_cases e : p = q
      · subst e
        rw [beq_self_eq_true]
        rw [HT.lexLt_cons, if_pos rfl] at h
        refine PySem.W.kat_yes ?_
        first
          | exact ih (i + 1) hy hl' h
          | exact ih _ _ (i + 1) hy hl' h
      · rw [show (p == q) = false from beq_eq_false_iff_ne.mpr e]
        rw [HT.lexLt_cons, if_neg e] at h
        exact PySem.W.kat_no (TS.oneLt_ints _ h)
theorem firsts_any {h : Heap} {d : Nat} (hd : 1 ≤ d) {k : Value → List Int} : ∀ vs : List Value, (∀ v ∈ vs, TS.TupInts h v (k v) ∧ (k v).length = d) → ∃ fs, PySem.W.KatTups h vs fs ∧ fs.length = vs.length ∧ ∀ f, f ∈ fs → ∃ n t, f = Value.int n t
  | [], _ => ⟨[], PySem.W.KatTups.nil, rfl, fun f hf => by simp at hf⟩
  | v :: vs, x => by
    obtain ⟨fs, kk, hl, hi⟩ := firsts_any hd vs fun u hu => x u (List.mem_cons_of_mem _ hu)
    obtain ⟨⟨a, xs, rfl, ⟨o, ho, hc, n, hdt⟩, i⟩, hn⟩ := x v (List.mem_cons_self ..)
    obtain ⟨y, ys, e⟩ : ∃ y ys, xs.toList = y :: ys := by
      cases q : xs.toList with
      | nil =>
        rw [q] at i
        have l := i.length
        rw [List.length_nil, hn] at l
        omega
      | cons y ys => exact ⟨y, ys, rfl⟩
    obtain ⟨m, t, hy⟩ := i.all y (by rw [e]; exact List.mem_cons_self ..)
    refine ⟨y :: fs, PySem.W.KatTups.cons ho hc hdt ?_ kk, by simp [hl], ?_⟩
    · have z := congrArg (fun l : List Value => l[0]?) e
      simpa using z
    · intro f hf
      rcases List.mem_cons.mp hf with rfl | hf
      · exact ⟨m, t, hy⟩
      · exact hi f hf
theorem swo_lexT (k : Value → List Int) : Swo fun v u => HT.lexLt (k v) (k u) := ⟨fun x y h => Cz.lx_asymm _ _ h, fun x y z h1 h2 => Cz.lx_ntr _ _ _ h1 h2⟩
theorem tups_sortable {a : Addr} {vs : List Value} {k : Value → List Int} {d : Nat} (hd : 1 ≤ d) (h0 : 0 < vs.length) (hp : ∀ v ∈ vs, TS.TupInts s.heap v (k v) ∧ (k v).length = d) (ha : ∀ o, s.heap.get? a = some o → o.cls ≠ .type "tuple") : SortableO prog w A s a vs fun v u => HT.lexLt (k v) (k u) := by
  intro h' keep
  have hp' : ∀ v ∈ vs, TS.TupInts h' v (k v) ∧ (k v).length = d := fun v hm => ⟨(hp v hm).1.keeps fun b o e c => keep b o (fun z => by subst z; exact ha o e c) e, (hp v hm).2⟩
  obtain ⟨fs, h1, h2, h3⟩ := firsts_any hd vs hp'
  refine ⟨tuples' true, fun Q E hq => ?_, fun p q hm hm' => ?_⟩
  · refine PySem.W.kat_kind (T := .type "int") h1 (by omega) (fun f hm => ?_) (by rfl) ?_
    · obtain ⟨x, t, rfl⟩ := h3 f hm
      exact PySem.W.Looks.now
    · have e : (Value.type "int" != Value.type "tuple") = true := by first | decide +kernel | rfl | decide
      rw [e]
      exact hq
  · show wpAny (model prog w) A (keyLt' (tuples' true) p.1 q.1) (fun r s' => s' = _ ∧ r = HT.lexLt (k p.1) (k q.1)) (fun _ _ => False) _
    obtain ⟨⟨a1, xs, e1, ⟨o1, ho1, hc1, n1, hd1⟩, i1⟩, l1⟩ := hp' _ hm
    obtain ⟨⟨a2, ys, e2, ⟨o2, ho2, hc2, n2, hd2⟩, i2⟩, l2⟩ := hp' _ hm'
    rw [e1] at i1 l1
    rw [e2] at i2 l2
    rw [e1, e2]
    refine PySem.W.kat_lt ho1 hd1 ho2 hd2 ?_
    have sz : decide (xs.size < ys.size) = false := by
      have l3 := i1.length
      have l4 := i2.length
      rw [Array.length_toList] at l3 l4
      exact decide_eq_false (by omega)
    rw [sz]
    exact lex_any 0 i1 i2 (by omega) ⟨rfl, rfl⟩
end
end Cz.St
namespace Cz
open PySem PySem.Spec PyProof.Rows L2
/-- sorted(xs), tuples of d ints -/
def rSortedTu (K : PySem.W.Frag) : List V → Hp → VK → Prop := fun vs H Q => ∃ (a : Addr) (L : List (Addr × List Int)) (d : Nat), vs = [V.ref a] ∧ (SqL K H a (L.map fun p => V.ref p.1)) ∧ 1 ≤ d ∧ (∀ p ∈ L, H p.1 = some (.tup (p.2.map V.int)) ∧ p.2.length = d) ∧
  ∀ (L' : List (Addr × List Int)) (p : Addr), L'.Perm L → (L'.Pairwise fun x y => HT.lexLt y.2 x.2 = false) → H p = none → Q (.ref p) (upd H p (.lst (L'.map fun p => V.ref p.1)))
section
variable {X : Cx}
/-- the ints of a tuple, by the values' addresses -/
theorem tupI_of {pins : List (Addr × Obj)} {σ : L2.St} {H : Hp} {s : Shared} (I : Inv X pins σ H s) {a : Addr} {ns : List Int} (h : H a = some (.tup (ns.map V.int))) : TS.TupInts s.heap (.ref a) ns := by
  obtain ⟨_, its, r, ob⟩ := I.hok a _ h
  exact ⟨a, its.toArray, rfl, ob, by simpa using r.ints⟩
theorem L_out {L : List (Addr × List Int)} {H : Hp} {vs out : List Value} (hv : vs = L.map fun p => Value.ref p.1) (hp : ∀ p ∈ L, H p.1 = some (.tup (p.2.map V.int))) (k : Value → List Int) (hk : ∀ p ∈ L, k (.ref p.1) = p.2) (hs : SrtO.Srtd (fun v u => HT.lexLt (k v) (k u)) out) (hb : SrtO.Stb (fun v u => HT.lexLt (k v) (k u)) out vs) :
    ∃ L' : List (Addr × List Int), L'.Perm L ∧ (L'.Pairwise fun x y => HT.lexLt y.2 x.2 = false) ∧ out = L'.map fun p => Value.ref p.1 := by
  have hperm := hb.perm
  have hall : ∀ v ∈ out, ∃ p ∈ L, v = Value.ref p.1 := fun v hvo => by
    have := hperm.mem_iff.mp hvo
    rw [hv] at this
    obtain ⟨p, hp, e⟩ := List.mem_map.mp this
    exact ⟨p, hp, e.symm⟩
  obtain ⟨f, hf⟩ : ∃ f : Value → Addr × List Int, ∀ v, (∃ p ∈ L, v = Value.ref p.1) → f v = ((match v with | .ref a => a | _ => 0), k v) := ⟨fun v => ((match v with | .ref a => a | _ => 0), k v), fun v _ => rfl⟩
  have e1 : vs.map f = L := by
    rw [hv, List.map_map]
    conv => rhs; rw [← List.map_id L]
    refine List.map_congr_left fun p hp => ?_
    simp only [Function.comp, id]
    rw [hf _ ⟨p, hp, rfl⟩, hk p hp]
  refine ⟨out.map f, by rw [← e1]; exact hperm.map f, ?_, ?_⟩
  · rw [List.pairwise_map]
    refine List.Pairwise.imp_of_mem (fun {x y} hx hy h => ?_) hs
    rw [hf x (hall x hx), hf y (hall y hy)]
    exact h
  · rw [List.map_map]
    conv => lhs; rw [← List.map_id out]
    refine List.map_congr_left fun v hv => ?_
    obtain ⟨p, hp, e⟩ := hall v hv
    simp only [Function.comp, id]
    rw [hf v ⟨p, hp, e⟩, e]
theorem vals_addr : ∀ {L : List (Addr × List Int)} {its : List Value}, Vals (L.map fun p => V.ref p.1) its → its = L.map fun p => Value.ref p.1
  | [], _, .nil => rfl
  | p :: L, _, .cons r t => by
    have e : _ = Value.ref p.1 := (show _ = Value.ref p.1 from r)
    rw [List.map_cons, vals_addr t, e]
theorem addr_vals : ∀ (L : List (Addr × List Int)), Vals (L.map fun p => V.ref p.1) (L.map fun p => Value.ref p.1)
  | [] => .nil
  | p :: L => .cons rfl (addr_vals L)
theorem srt_short {lt : Value → Value → Bool} {l : List Value} (h : l.length < 2) : SrtO.Srtd lt l := by
  match l, h with
  | [], _ => exact List.Pairwise.nil
  | [v], _ => exact List.pairwise_singleton _ _
theorem cr_sortedTu : CallR X (.builtin "sorted") (rSortedTu X.K) := by
  intro pins s σ H vs us Q I r h
  obtain ⟨a, L, d, rfl, hs, hd, hL, q⟩ := h
  obtain ⟨its, rv, hl, hz⟩ := I.list hs
  rw [Vals.ref1 r]
  have ei := vals_addr rv
  have hlen0 : its.length = L.length := by rw [ei]; simp
  have htup : ∀ v ∈ its, TS.TupInts s.heap v (TS.intsOf s.heap v) ∧ (TS.intsOf s.heap v).length = d := fun v hv => by
    rw [ei] at hv
    obtain ⟨p, hp, rfl⟩ := List.mem_map.mp hv
    have t := tupI_of I (hL p hp).1
    rw [t.ints]
    exact ⟨t, (hL p hp).2⟩
  refine SrtO.sorted_ord (St.swo_lexT (TS.intsOf s.heap)) hl.isList (by rw [← rv.length]; exact hz) (fun h2 h₁ a' ha kk => ?_) fun out hs hb => ?_
  · refine St.tups_sortable (s := { s with heap := h₁ }) hd (by omega) (fun v hm => ⟨(htup v hm).1.keeps fun b o e _ => (kk b o e).2, (htup v hm).2⟩) fun o e => ?_
    have e' : some o = some (seqObj "list" its.toArray 0) := e.symm.trans ha
    cases e'
    intro c
    exact absurd (Value.type.inj c) (by decide)
  · obtain ⟨L', p1, p2, p3⟩ := L_out (H := H) ei (fun p hp => (hL p hp).1) (TS.intsOf s.heap) (fun p hp => (tupI_of I (hL p hp).1).ints) hs hb
    obtain ⟨ep, he'⟩ := PyProof.Rows.sortedAll_at s.heap its out.toArray
    have hlen : (L'.map fun p => V.ref p.1).length ≤ sizeLine := by
      rw [List.length_map, p1.length_eq, ← hlen0, ← rv.length]
      exact hz
    exact ⟨.ref _, upd H (s.heap.objs.size + 1) (.lst (L'.map fun p => V.ref p.1)), I.laid (t' := s.toks) (fun _ _ => PyProof.Rows.sortedAll_old) (Nat.le_succ _) ⟨hlen, out, ep, by rw [p3]; exact addr_vals L', he'⟩, rfl, q L' _ p1 p2 (I.hok.fresh (Nat.le_succ _))⟩
/-- sorted(d), d a dict whose keys are tuples of n ints -/
def rSortedDT : List V → Hp → VK → Prop := fun vs H Q => ∃ (a : Addr) (kvs : List (List Key × V)) (ks : List (List Int)) (n : Nat), vs = [V.ref a] ∧ H a = some (.dT kvs) ∧ kvs.map (·.1) = ks.map (fun k => k.map Sum.inl) ∧ 1 ≤ n ∧ (∀ k ∈ ks, k.length = n) ∧
  ∀ (L' : List (Addr × List Int)) (p : Addr), (L'.map (·.2)).Perm ks → (∀ x ∈ L', H x.1 = some (.tup (x.2.map V.int))) → (L'.Pairwise fun x y => HT.lexLt y.2 x.2 = false) → H p = none → Q (.ref p) (upd H p (.lst (L'.map fun p => V.ref p.1)))
theorem keyT_pairs {H : Hp} : ∀ {kvs : List (List Key × V)} {xs : List (List Key × Addr × Value)} {ks : List (List Int)}, Paired (fun (p : List Key × V) (q : List Key × Addr × Value) => p.1 = q.1 ∧ H q.2.1 = some (.tup (p.1.map kV)) ∧ RelV p.2 q.2.2) kvs xs → kvs.map (·.1) = ks.map (fun k => k.map Sum.inl) →
    ∃ L : List (Addr × List Int), L.map (·.2) = ks ∧ L.map (fun p => Value.ref p.1) = xs.map (fun x => Value.ref x.2.1) ∧ ∀ p ∈ L, H p.1 = some (.tup (p.2.map V.int))
  | [], _, [], .nil, _ => ⟨[], rfl, rfl, fun p hp => nomatch hp⟩
  | [], _, _ :: _, .nil, h => by simp at h
  | _ :: _, _, [], .cons _ _, h => by simp at h
  | p :: kvs, x :: xs, k :: ks, .cons r t, h => by
    simp only [List.map_cons, List.cons.injEq] at h
    obtain ⟨L, e1, e2, e3⟩ := keyT_pairs t h.2
    refine ⟨(x.2.1, k) :: L, by simp [e1], by simp [e2], fun q hq => ?_⟩
    rcases List.mem_cons.mp hq with e | e
    · subst e
      have := r.2.1
      rw [h.1, List.map_map] at this
      exact this
    · exact e3 q e
theorem cr_sortedDT (hc : X.calm = true) : CallR X (.builtin "sorted") rSortedDT := by
  intro pins s σ H xs us Q I r h
  obtain ⟨d, kvs, ks, n, rfl, hd, hks, hn, hkl, q⟩ := h
  obtain ⟨u, rfl, rx⟩ := r.one
  cases rx
  obtain ⟨z, hs, xs, pr, o, es, ep, ho, hx, hdt, he, hnd⟩ := (show ObjOk X.prog X.w H s.heap d (.dT kvs) from I.hok d _ hd)
  have l1 : es.size = xs.length := size_of_entries he
  have l2 : kvs.length = xs.length := Paired.length pr
  obtain ⟨L, e1, e2, e3⟩ := keyT_pairs pr hks
  refine Calls.call_function_entry PyProof.Rows.kind_sorted PyProof.Rows.plain_sorted PyProof.Rows.entry_sorted (PyProof.Rows.args_sorted1 _) ?_
  unfold Builtin.«sorted»
  refine wpAny_bind (m := checkCount "sorted" 1 1 _) (wpAny_pure ?_)
  refine wpAny_bind (PySem.W.kdu_collect (A := X.A.in1) (kdl_raw hs hx hdt) (I.ok.hd hc) ho (by omega) fun h' tk acc' hk it => ?_)
  have ea : acc'.toList = L.map fun p => Value.ref p.1 := by
    rw [e2]
    have hl : acc'.toList.length = xs.length := by rw [Array.length_toList, it.1]; exact l1
    apply List.ext_getElem?
    intro j
    rw [List.getElem?_map]
    cases hj : acc'.toList[j]? with
    | none =>
      have h1 := List.getElem?_eq_none_iff.mp hj
      rw [List.getElem?_eq_none (by omega)]
      all_goals rfl
    | some v =>
      obtain ⟨en, hen, hv⟩ := it.2 j v (by rw [← Array.getElem?_toList]; exact hj)
      have qe := entry_at he j
      rw [hen] at qe
      cases hb : xs[j]? with
      | none =>
        rw [hb] at qe
        exact nomatch (show some en = none from qe)
      | some b =>
        rw [hb] at qe
        have e2 : en = entryOfKey (tupleKind (mixKind X.prog X.w)) b := Option.some.inj qe
        rw [hv, e2]
        all_goals rfl
  have hlL : L.length = xs.length := by
    have := congrArg List.length e2
    simpa using this
  have hal : acc'.toList.length = L.length := by rw [ea]; simp
  have I1 : Inv X pins σ H { s with heap := h', toks := tk } := I.kept hk
  have hz : acc'.toList.length ≤ sizeLine := by omega
  refine wpAny_bind (wpAny_newList ?_ hz)
  have hoL : (h'.push (seqObj "list" acc'.toList.toArray 0)).get? h'.objs.size = some (seqObj "list" acc'.toList.toArray 0) := Heap.get?_push_size _ rfl
  show wpAny _ _ _ _ _ { s with heap := h'.push (seqObj "list" acc'.toList.toArray 0), toks := tk }
  have htup : ∀ v ∈ acc'.toList, TS.TupInts (h'.push (seqObj "list" acc'.toList.toArray 0)) v (TS.intsOf h' v) ∧ (TS.intsOf h' v).length = n := fun v hv => by
    rw [ea] at hv
    obtain ⟨p, hp, rfl⟩ := List.mem_map.mp hv
    have t := tupI_of I1 (e3 p hp)
    rw [t.ints]
    have hpk : p.2 ∈ ks := by rw [← e1]; exact List.mem_map.mpr ⟨p, hp, rfl⟩
    exact ⟨t.keeps fun b o e _ => Heap.get?_push_of_some _ e, hkl _ hpk⟩
  refine wpAny_bind (wpAny_holding (wpAny_call_entry PyProof.Rows.slot_list_sort ⟨_, hoL, rfl⟩ PyProof.Rows.entry_list_sort
    (SrtO.list_sort_ord (s := { s with heap := h'.push (seqObj "list" acc'.toList.toArray 0), toks := tk }) (St.swo_lexT (TS.intsOf h')) hoL hz (fun h2 => St.tups_sortable hn (by omega) htup fun o e => ?_) fun out hs hb => ⟨_, rfl, ?_⟩) (PyProof.Rows.args_list_sort _)))
  · have e' : some o = some (seqObj "list" acc'.toList.toArray 0) := e.symm.trans hoL
    cases e'
    intro c
    exact absurd (Value.type.inj c) (by decide)
  · obtain ⟨L', p1, p2, p3⟩ := L_out (H := H) ea (fun p hp => e3 p hp) (TS.intsOf h') (fun p hp => (tupI_of I1 (e3 p hp)).ints) hs hb
    obtain ⟨e', he'⟩ := PyProof.Rows.sortedHeap_at (vs := acc'.toList) (out := out.toArray) hoL
    have hlen : (L'.map fun p => V.ref p.1).length ≤ sizeLine := by
      rw [List.length_map, p1.length_eq, ← hal]
      exact hz
    refine wpAny_pure ⟨_, rfl, .ref h'.objs.size, upd H h'.objs.size (.lst (L'.map fun p => V.ref p.1)), I1.laid (t' := tk) (fun b u e => ?_) (Nat.le_refl _)
      (show ObjOk X.prog X.w _ _ _ (.lst (L'.map fun p => V.ref p.1)) from ⟨hlen, out, e', by rw [p3]; exact addr_vals L', he'⟩), rfl, q L' _ (by rw [← e1]; exact p1.map _) (fun x hx => e3 x (p1.mem_iff.mp hx)) p2 (I1.hok.fresh (Nat.le_refl _))⟩
    have hb : b < h'.objs.size := Heap.lt_size e
    rw [PyProof.Rows.sortedHeap_old (Nat.ne_of_lt hb) (by rw [size_push']; exact Nat.lt_succ_of_lt hb)]
    exact Heap.get?_push_of_some _ e
end
/-! ### sorted, of ints, of tuples, of a dict with tuple keys -/
def tupsD : List D → Option (List (List Int))
  | [] => some []
  | .tup ds :: r => match intsD ds, tupsD r with
    | some ns, some l => some (ns :: l)
    | _, _ => none
  | _ :: _ => none
@[simp] theorem tupsD_map : ∀ l : List (List Int), tupsD (l.map fun r => D.tup (r.map D.int)) = some l
  | [] => rfl
  | r :: l => by simp [tupsD, tupsD_map l]
theorem tupsD_eq : ∀ {ds : List D} {l : List (List Int)}, tupsD ds = some l → ds = l.map fun r => D.tup (r.map D.int)
  | [], l, h => by simp [tupsD] at h; subst h; rfl
  | d :: ds, l, h => by
    cases d with
    | tup es =>
      cases h1 : intsD es with
      | none => simp [tupsD, h1] at h
      | some ns =>
        cases h2 : tupsD ds with
        | none => simp [tupsD, h1, h2] at h
        | some l2 =>
          simp only [tupsD, h1, h2, Option.some.injEq] at h
          subst h
          rw [intsD_eq h1, tupsD_eq h2]; rfl
    | _ => simp [tupsD] at h
def intsK : List Key → Option (List Int)
  | [] => some []
  | .inl i :: r => (intsK r).map (i :: ·)
  | _ :: _ => none
theorem intsK_eq : ∀ {k : List Key} {ns : List Int}, intsK k = some ns → k = ns.map Sum.inl
  | [], ns, h => by simp [intsK] at h; subst h; rfl
  | .inl i :: r, ns, h => by
    cases h1 : intsK r with
    | none => simp [intsK, h1] at h
    | some l => simp [intsK, h1] at h; subst h; rw [intsK_eq h1]; rfl
  | .inr x :: r, ns, h => by simp [intsK] at h
@[simp] theorem intsK_map : ∀ ns : List Int, intsK (ns.map Sum.inl) = some ns
  | [] => rfl
  | n :: ns => by simp [intsK, intsK_map ns]
def keysI : List (List Key) → Option (List (List Int))
  | [] => some []
  | k :: r => match intsK k, keysI r with
    | some ns, some l => some (ns :: l)
    | _, _ => none
theorem keysI_eq : ∀ {ks : List (List Key)} {l : List (List Int)}, keysI ks = some l → ks = l.map fun k => k.map Sum.inl
  | [], l, h => by simp [keysI] at h; subst h; rfl
  | k :: r, l, h => by
    cases h1 : intsK k with
    | none => simp [keysI, h1] at h
    | some ns =>
      cases h2 : keysI r with
      | none => simp [keysI, h1, h2] at h
      | some l2 =>
        simp only [keysI, h1, h2, Option.some.injEq] at h
        subst h
        rw [intsK_eq h1, keysI_eq h2]; rfl
@[simp] theorem keysI_map : ∀ l : List (List Int), keysI (l.map fun k => k.map Sum.inl) = some l
  | [] => rfl
  | k :: l => by simp [keysI, keysI_map l]
/-- rows of one length -/
def oneL (l : List (List Int)) : Bool := l.all fun r => decide (r.length = (l.headD []).length) && decide (1 ≤ r.length)
theorem oneL_ok {l : List (List Int)} (h : oneL l = true) : ∃ n, 1 ≤ n ∧ ∀ r ∈ l, r.length = n := by
  cases l with
  | nil => exact ⟨1, by omega, fun r hr => nomatch hr⟩
  | cons q l =>
    have h := List.all_eq_true.mp h
    have h0 := h q List.mem_cons_self
    simp at h0
    refine ⟨q.length, by omega, fun r hr => ?_⟩
    have := h r hr
    simp at this
    exact this.1
def bSrtA : List KD → Option KD
  | [(k, .lst ds)] => (match intsD ds with
    | some ns => some (.own, .lst ((srtI ns).map D.int))
    | none => (match tupsD ds with
      | some l => if oneL l = true then some (.own, .lst ((srtT l).map fun r => D.tup (r.map D.int))) else none
      | none => none))
  | [(_, .dtk kvs)] => (match keysI (kvs.map (·.1)) with
      | some l => if oneL l = true then some (.own, .lst ((srtT l).map fun r => D.tup (r.map D.int))) else none
      | none => none)
  | _ => none
def rSrtA (K : PySem.W.Frag) : List V → Hp → VK → Prop := fun vs H Q => rSortedI K vs H Q ∨ rSortedTu K vs H Q ∨ rSortedDT vs H Q
theorem cr_srtA {X : Cx} (hc : X.calm = true) : CallR X (.builtin "sorted") (rSrtA X.K) := cr_sortedI.or (cr_sortedTu.or (cr_sortedDT hc))
theorem tups_addr {K : PySem.W.Frag} {H : Hp} : ∀ {l : List (List Int)} {vs : List V} {f : List Addr}, Reps K H (l.map fun r => D.tup (r.map D.int)) vs f → ∃ L : List (Addr × List Int), L.map (·.2) = l ∧ vs = L.map (fun p => V.ref p.1) ∧ ∀ p ∈ L, H p.1 = some (.tup (p.2.map V.int))
  | [], _, _, .nil => ⟨[], rfl, rfl, fun p hp => nomatch hp⟩
  | r :: l, _, _, .cons q t => by
    obtain ⟨L, e1, e2, e3⟩ := tups_addr t
    obtain ⟨a, ws, rfl, ha, qs⟩ := q.tupI
    obtain ⟨e4, _⟩ := qs.ints_inv
    subst e4
    refine ⟨(a, r) :: L, by simp [e1], by simp [e2], fun p hp => ?_⟩
    rcases List.mem_cons.mp hp with e | e
    · subst e; exact ha
    · exact e3 p e
theorem addr_tups {K : PySem.W.Frag} {H : Hp} : ∀ {L : List (Addr × List Int)}, (∀ p ∈ L, H p.1 = some (.tup (p.2.map V.int))) → Reps K H ((L.map (·.2)).map fun r => D.tup (r.map D.int)) (L.map fun p => V.ref p.1) []
  | [], _ => .nil
  | p :: L, h => .cons (f := []) (g := []) (.tup (h p List.mem_cons_self) (Reps.ints _)) (addr_tups fun q hq => h q (List.mem_cons_of_mem _ hq))
theorem oSrtA {K : PySem.W.Frag} : BltOk K bSrtA (rSrtA K) := by
  intro A H0 H H1 F G ρ σ Q xs vs g kd sr s1 r o e h
  have fin : ∀ {l : List (List Int)}, Cont K A H0 F H (.own, .lst ((srtT l).map fun r => D.tup (r.map D.int))) Q → ∀ (L' : List (Addr × List Int)) (p : Addr), (L'.map (·.2)).Perm l → (∀ x ∈ L', H1 x.1 = some (.tup (x.2.map V.int))) → (L'.Pairwise fun x y => HT.lexLt y.2 x.2 = false) → H1 p = none → Q (.ref p) (upd H1 p (.lst (L'.map fun p => V.ref p.1))) := fun {l} h L' p hp ht hs hn => by
    have e2 := sortedT_uniq (hp.trans (srtT_perm l).symm) (List.pairwise_map.mpr hs) (srtT_sorted l)
    rw [← e2] at h
    exact h.newL sr s1 (addr_tups ht) (KOk.nil _) hn
  unfold bSrtA at e
  split at e
  · rename_i k ds
    obtain ⟨v, rfl, r0⟩ := r.one (d := .lst ds) rfl
    obtain ⟨a, ws, g', rfl, t, q, _, _⟩ := r0.lstI
    cases h1 : intsD ds with
    | some ns =>
      simp only [h1, Option.some.injEq] at e
      subst e
      have ed := intsD_eq h1
      subst ed
      obtain ⟨e1, _⟩ := q.ints_inv
      subst e1
      refine .inl ⟨a, ns, rfl, t, fun ns' p h2 h3 hp => ?_⟩
      have e2 := sorted_uniq (h2.trans (srtI_perm ns).symm) h3 (srtI_sorted ns)
      rw [e2]
      exact h.newL sr s1 (Reps.ints _) (KOk.nil _) hp
    | none =>
      simp only [h1] at e
      cases h2 : tupsD ds with
      | none => simp [h2] at e
      | some l =>
        simp only [h2] at e
        split at e
        · rename_i hl
          cases e
          have ed := tupsD_eq h2
          subst ed
          obtain ⟨L, e1, e2, e3⟩ := tups_addr q
          obtain ⟨n, hn, hln⟩ := oneL_ok hl
          subst e2
          refine .inr (.inl ⟨a, L, n, rfl, t, hn, fun p hp => ⟨e3 p hp, hln _ (by rw [← e1]; exact List.mem_map.mpr ⟨p, hp, rfl⟩)⟩, fun L' p h3 h4 hp => ?_⟩)
          exact fin h L' p (by rw [← e1]; exact h3.map _) (fun x hx => e3 x (h3.mem_iff.mp hx)) h4 hp
        · cases e
  · rename_i k kvs
    obtain ⟨v, rfl, r0⟩ := r.one (d := .dtk kvs) rfl
    cases r0 with
    | @dtk a kvs' _ f' hd nk q =>
    cases h2 : keysI (kvs.map (·.1)) with
    | none => simp [h2] at e
    | some l =>
      simp only [h2] at e
      split at e
      · rename_i hl
        cases e
        obtain ⟨n, hn, hln⟩ := oneL_ok hl
        refine .inr (.inr ⟨a, kvs', l, n, rfl, hd, by rw [q.keys]; exact keysI_eq h2, hn, hln, fun L' p h3 h4 h5 hp => ?_⟩)
        exact fin h L' p h3 h4 h5 hp
      · cases e
  · cases e
/-- {} that will have tuples as keys -/
def dntE : SE := fun _ => .ok (.own, .dtk [])
theorem e_dnt {X : Cx} {CA : String → Addr} {W : WX} {pos : Pos} : PE X (.Dict [] [] pos) (tE X.K CA W dntE) := by
  refine peI pe_dnewT fun σ H Q ⟨A, H0, F, G, ρ, sr, h⟩ => ?_
  intro d hd
  refine h _ _ [d] (same_upd hd) (.dtk upd_same List.nodup_nil .nil) ⟨List.nodup_cons.mpr ⟨by simp, List.nodup_nil⟩, fun a ha => ?_⟩
  rw [List.mem_singleton.mp ha]
  exact ⟨hd, ⟨by rw [upd_same]; trivial⟩⟩
end Cz
set_option maxHeartbeats 2000000
/-! Cz19: expressions that change what slots own. -/
namespace Cz
open PySem PySem.Spec PyProof.Rows L2
/-- an expression that changes something: it ends in .ri (the slots behind it, what it gives), .ex or .st -/
abbrev SM := Env → Out
/-- what a change leaves as it was: hidden owners, what no slot owns; what slots own then was owned or is new -/
structure Eff (n : Nat) (F F' : Nat → List Addr) (H H' : Hp) : Prop where
  hid : ∀ j, n ≤ j → F' j = F j
  fr : ∀ a o, H a = some o → (∀ j, j < n → a ∉ F j) → H' a = some o
  vis : ∀ j, j < n → ∀ a ∈ F' j, (∃ i, i < n ∧ a ∈ F i) ∨ H a = none
theorem Eff.of {n : Nat} {F : Nat → List Addr} {H H' : Hp} (s : Same H H') : Eff n F F H H' := ⟨fun _ _ => rfl, fun a o e _ => s a o e, fun j hj a ha => .inl ⟨j, hj, ha⟩⟩
theorem Eff.trans {n : Nat} {F F1 F2 : Nat → List Addr} {H H1 H2 : Hp} (a : Eff n F F1 H H1) (b : Eff n F1 F2 H1 H2) : Eff n F F2 H H2 where
  hid := fun j hj => (b.hid j hj).trans (a.hid j hj)
  fr := fun x o e h => b.fr x o (a.fr x o e h) fun j hj z => by
    rcases a.vis j hj x z with ⟨i, hi, w⟩ | w
    · exact h i hi w
    · rw [w] at e; cases e
  vis := fun j hj x hx => by
    rcases b.vis j hj x hx with ⟨i, hi, w⟩ | w
    · exact a.vis i hi x w
    · rcases Classical.em (∃ i, i < n ∧ x ∈ F i) with z | z
      · exact .inl z
      · right
        cases e : H x with
        | none => rfl
        | some o => rw [a.fr x o e fun i hi q => z ⟨i, hi, q⟩] at w; cases w
theorem Eff.later {n : Nat} {F F1 : Nat → List Addr} {H H0 H1 : Hp} (s : Same H H0) (b : Eff n F F1 H0 H1) : Eff n F F1 H H1 := (Eff.of s).trans b
def MOk (K : PySem.W.Frag) (CA : String → Addr) (W : WX) (A : Addr → Prop) (H0 : Hp) (F : Nat → List Addr) (n : Nat) (G : List (D × V)) (σ : L2.St) (H : Hp) (o : Out) (Q : VK) : Prop := match o with
  | .ri ρ k d => ∀ v Hx H' F' f, SR K A H0 F' G ρ σ Hx → Eff n F F' H Hx → Same Hx H' → Rep K H' d v f → KOk A H0 F' Hx H' k f → Q v H'
  | .ex c ρ => ∀ H' F', SR K A H0 F' G ρ σ H' → WxOk K CA c (fun cls od => W cls od σ) H'
  | _ => False
def tM (K : PySem.W.Frag) (CA : String → Addr) (W : WX) (s : SM) : TE := fun σ H Q => ∃ A H0 F G ρ, SR K A H0 F G ρ σ H ∧ MOk K CA W A H0 F ρ.length G σ H (s ρ) Q
section
variable {K : PySem.W.Frag} {CA : String → Addr} {W : WX} {A : Addr → Prop} {H0 H H1 : Hp} {F : Nat → List Addr} {G : List (D × V)} {ρ : Env} {σ : L2.St} {n : Nat} {Q Q' : VK}
theorem MOk.lift {α : Type} {r : R α} {f : α → Out} (h : MOk K CA W A H0 F n G σ H (r.out ρ f) Q) (sr : SR K A H0 F G ρ σ H) : Post K CA W σ H r fun a => MOk K CA W A H0 F n G σ H (f a) Q := by
  cases r with
  | ok a => exact h
  | ex c => exact fun H' s => h H' F (sr.same s)
  | st => exact h.elim
/-- the start later -/
theorem MOk.later {o : Out} (h : MOk K CA W A H0 F n G σ H o Q) (s : Same H H1) : MOk K CA W A H0 F n G σ H1 o Q := by
  cases o with
  | ri ρ k d => exact fun v Hx H' F' f sr e1 s2 r o => h v Hx H' F' f sr (e1.later s) s2 r o
  | ex c ρ => exact h
  | _ => exact h.elim
theorem MOk.imp {o : Out} (h : MOk K CA W A H0 F n G σ H o Q) (k : ∀ v H, Q v H → Q' v H) : MOk K CA W A H0 F n G σ H o Q' := by
  cases o with
  | ri ρ _ d => exact fun v Hx H' F' f sr e1 s2 r o => k _ _ (h v Hx H' F' f sr e1 s2 r o)
  | ex c ρ => exact h
  | _ => exact h.elim
end
/-- what changes nothing -/
def mE (s : SE) : SM := fun ρ => (s ρ).out ρ fun x => .ri ρ x.1 x.2
section
variable {X : Cx} {CA : String → Addr} {W : WX} {pos pos' p1 p2 p3 : Pos} {a b e o tg : Expr} {es : List Expr} {se : SE} {sp : SPh} {s : SA} {sm : SM} {op : MOp} {T : MT} {id : String} {name : Str} {r : V → List V → Hp → VK → Prop} {tt : Tgt} {sl : List Nat}
theorem m_pure (h : PE X e (tE X.K CA W se)) : PE X e (tM X.K CA W (mE se)) := by
  refine peI h fun σ H Q ⟨A, H0, F, G, ρ, sr, h⟩ => ⟨A, H0, F, G, ρ, sr, (MOk.lift h sr).imp fun ⟨k, d⟩ _ q v H' f s r o => ?_⟩
  exact q v H H' F f sr (Eff.of (Same.refl _)) s r o
/-! ### statements -/
def Out.thenM (o : Out) (f : Env → Kd → D → Out) : Out := match o with
  | .ri ρ k d => f ρ k d
  | .ex c ρ => .ex c ρ
  | _ => .st
def asgM (t : Tgt) (s : SM) : SS := fun ρ => (s ρ).thenM fun ρ k d => match t k d ρ with
  | some ρ' => .nx ρ'
  | none => .st
def dropM (s : SM) : SS := fun ρ => (s ρ).thenM fun ρ _ _ => .nx ρ
def retM (s : SM) : SS := fun ρ => (s ρ).thenM fun _ k d => .rt k d
/-- return in a def that changes its arguments -/
def retI (s : SM) : SS := fun ρ => (s ρ).thenM fun ρ k d => .ri ρ k d
def ifM (s : SM) (a b : SS) : SS := fun ρ => (s ρ).thenM fun ρ _ d => match d with
  | .bl true => a ρ
  | .bl false => b ρ
  | _ => .st
theorem thenM_ok {K : PySem.W.Frag} {A : Addr → Prop} {H0 H : Hp} {F : Nat → List Addr} {G : List (D × V)} {σ : L2.St} {De : Ends} {o : Out} {n : Nat} {f : Env → Kd → D → Out} {Q : VK} (h : OutOk K CA W A H0 G De (o.thenM f))
    (k : ∀ ρ' kk d v Hx H' F' g, o = .ri ρ' kk d → SR K A H0 F' G ρ' σ Hx → Same Hx H' → Rep K H' d v g → KOk A H0 F' Hx H' kk g → OutOk K CA W A H0 G De (f ρ' kk d) → Q v H') : MOk K CA W A H0 F n G σ H o Q := by
  cases o with
  | ri ρ' kk d => exact fun v Hx H' F' g sr _ s r o => k ρ' kk d v Hx H' F' g rfl sr s r o h
  | ex c ρ' => exact fun H' F' sr => h σ H' F' sr
  | _ => exact h.elim
theorem s_asgM (he : PE X e (tM X.K CA W sm)) (hg : PG X tg (tG X.K sl tt)) (hs : swapsWithSole [tg] e pos.line X.env = pure false := by rfl) (hw : swappedStores [tg] e X.env = pure none := by rfl) (h1 : (assignEach [tg] X.env).map (·.2) = [assign tg X.env] := by rfl) :
    PS X (.Assign [tg] e pos) (tS X.K CA W (asgM tt sm)) := by
  refine psI (ps_asg he hg hs hw h1) fun D σ H ⟨A, H0, F, G, ρ, sr, h⟩ => ⟨A, H0, F, G, ρ, sr, thenM_ok h fun ρ' kk d v Hx H' F' g _ sr' s r o q => ?_⟩
  refine ⟨A, H0, Hx, F', G, ρ', kk, d, g, sr', s, r, o, ?_⟩
  cases ht : tt kk d ρ' with
  | none => rw [ht] at q; exact q.elim
  | some ρ2 => rw [ht] at q; exact fun σ' F2 p => q σ' H' F2 p.sr
theorem s_dropM (he : PE X e (tM X.K CA W sm)) (hs : swapsWith e none pos.line X.env = pure false := by rfl) : PS X (.Expr e pos) (tS X.K CA W (dropM sm)) := by
  refine psI (ps_expr he hs) fun D σ H ⟨A, H0, F, G, ρ, sr, h⟩ => ⟨A, H0, F, G, ρ, sr, thenM_ok h fun ρ' kk d v Hx H' F' g _ sr' s r o q => ?_⟩
  exact q σ H' F' (sr'.same s)
theorem s_retM (he : PE X e (tM X.K CA W sm)) : PS X (.Return (some e) pos) (tS X.K CA W (retM sm)) := by
  refine psI (ps_ret he) fun D σ H ⟨A, H0, F, G, ρ, sr, h⟩ => ⟨A, H0, F, G, ρ, sr, thenM_ok h fun ρ' kk d v Hx H' F' g _ sr' s r o q => ?_⟩
  exact q v H' g (sr'.fr.trans s) r (o.ret sr')
theorem s_retI (he : PE X e (tM X.K CA W sm)) : PS X (.Return (some e) pos) (tS X.K CA W (retI sm)) := by
  refine psI (ps_ret he) fun D σ H ⟨A, H0, F, G, ρ, sr, h⟩ => ⟨A, H0, F, G, ρ, sr, thenM_ok h fun ρ' kk d v Hx H' F' g _ sr' s r o q => ?_⟩
  exact q v σ Hx H' F' g sr' s r o
theorem s_retNI : PS X (.Return none pos) (tS X.K CA W (fun ρ => .ri ρ .own .non)) :=
  psI ps_retN fun D σ H ⟨A, H0, F, G, ρ, sr, h⟩ => h .non σ H H F [] sr (Same.refl _) .non (KOk.nil _)
theorem s_ifM {sa sb : SS} {xs ys : List Stmt} (hc : PE X e (tM X.K CA W sm)) (ha : PSs X xs (tS X.K CA W sa)) (hb : PSs X ys (tS X.K CA W sb)) (he : ∀ whole, isTrue e X.env whole = (do let v ← whole; standAt e.pos; holding [v] (truthy v)) := by intro _; rfl) :
    PS X (.If e xs ys pos) (tS X.K CA W (ifM sm sa sb)) := by
  refine psI (ps_if (pt_val hc he) ha hb) fun D σ H ⟨A, H0, F, G, ρ, sr, h⟩ => ⟨A, H0, F, G, ρ, sr, thenM_ok h fun ρ' kk d v Hx H' F' g _ sr' s r o q => ?_⟩
  cases d with
  | bl c =>
    cases r
    refine ⟨c, rfl, ?_⟩
    cases c with
    | true => exact ⟨A, H0, F', G, ρ', sr'.same s, q⟩
    | false => exact ⟨A, H0, F', G, ρ', sr'.same s, q⟩
  | _ => exact q.elim
/-! ### o.m(e, ..) as an expression -/
def mtM (T : MT) (p : SPh) (s : SA) (op : MOp) : SM := fun ρ => (p ρ).out ρ fun x => if T.ok x.2.2 = true then (s ρ).out ρ fun xs => match op x.2.2 xs with
  | some y => (match putAt ρ x y.2 with
    | some ρ' => .ri ρ' .own y.1
    | none => .st)
  | none => .st else .st
/-- a change at a place: what is hidden stays, what no slot owns stays -/
theorem PhAt.openM {K : PySem.W.Frag} {A : Addr → Prop} {H0 Hb H : Hp} {F : Nat → List Addr} {G : List (D × V)} {ρ : Env} {σ : L2.St} {x : Nat × List Ix × D} {v : V} (sr : SR K A H0 F G ρ σ Hb) (s : Same Hb H) (h : PhAt ρ σ H x v) : ∃ f0, Rep K H x.2.2 v f0 ∧ f0.Nodup ∧ (∀ b ∈ f0, Hb b ≠ none ∧ Mu (H b)) ∧
    ∀ (a : Addr) (o : HO) (d0' : D) (f0' : List Addr), v = .ref a → a ∈ f0 → L2.Mut (some o) → Rep K (upd H a o) d0' v f0' → f0'.Nodup → (∀ b ∈ f0', b ∈ f0 ∨ Hb b = none) → (∀ b ∈ f0', Mu ((upd H a o) b)) →
      ∃ ρ' F', putAt ρ x d0' = some ρ' ∧ SR K A H0 F' G ρ' σ (upd H a o) ∧ Eff ρ.length F F' Hb (upd H a o) := by
  have sr1 := sr.same s
  obtain ⟨d, vj, h1, h2, h3, h4⟩ := h
  have hx : x.1 < ρ.length := (List.getElem?_eq_some_iff.mp h1).1
  obtain ⟨vj', h5, rj⟩ := sr1.slo _ d h1
  rw [h2] at h5; cases h5
  obtain ⟨v0, f0, k1, k2, k3, k4, k5⟩ := nav_rep rj h3
  rw [h4] at k1; cases k1
  have own := sr1.own x.1
  refine ⟨f0, k2, k4 own.1, fun b hb => ⟨((sr.own x.1).2 b (k3 b hb)).2.ne, (own.2 b (k3 b hb)).2⟩, fun a o d0' f0' ea ha hm r nf hf hmu => ?_⟩
  subst ea
  have hne : a ∈ F x.1 := k3 a ha
  have mua := (own.2 a hne).2
  have nt : ∀ b ob, H b = some ob → IsT ob → (upd H a o) b = some ob := fun b ob e t => by
    by_cases z : b = a
    · subst z
      rw [e] at mua
      have := mua.m
      cases ob <;> first | exact t.elim | exact this.elim
    · rw [upd_ne z]; exact e
  obtain ⟨d', f', e1, e2, e3, e4⟩ := k5 own.1 (upd H a o) d0' f0' nt (fun b hb hn ob e => by
    have hba : b ≠ a := fun z => hn (z ▸ ha)
    rw [upd_ne hba]; exact e) r nf (fun b hb => (hf b hb).imp id fun z w => ((sr.own x.1).2 b w).2.ne z)
  refine ⟨(inv x.1 ρ).set x.1 (.ow d'), updF F x.1 f', by unfold putAt; rw [h1]; simp only [slD, Option.getD_some]; rw [e1]; rfl, ?_, fun j hj => updF_ne (by omega), fun b ob eb hb => ?_, fun j hj b hb => ?_⟩
  · refine sr.mutS s hne hm h1 h2 e2 e3 (fun b hb => ?_) fun b hb => ?_
    · rcases e4 b hb with z | z
      · exact (hf b z).imp (k3 b) id
      · exact .inl z.1
    · rcases e4 b hb with z | z
      · exact hmu b z
      · have hba : b ≠ a := fun w => z.2 (w ▸ ha)
        rw [upd_ne hba]; exact (own.2 b z.1).2
  · have : b ≠ a := fun z => hb x.1 hx (z ▸ hne)
    rw [upd_ne this]; exact s _ _ eb
  · by_cases e : j = x.1
    · subst e
      rw [updF_same] at hb
      rcases e4 b hb with z | z
      · exact (hf b z).imp (fun w => ⟨x.1, hx, k3 b w⟩) id
      · exact .inl ⟨x.1, hx, z.1⟩
    · rw [updF_ne e] at hb; exact .inl ⟨j, hj, hb⟩
theorem m_core {T : MT} (hok : MtOk X.K op r) {A : Addr → Prop} {H0 H : Hp} {F : Nat → List Addr} {G : List (D × V)} {ρ : Env} {σ : L2.St} {Q : VK} (sr : SR X.K A H0 F G ρ σ H) (h : MOk X.K CA W A H0 F ρ.length G σ H (mtM T sp s op ρ) Q) : tBM X.K T.T r (tP CA W X.K sp) (tA X.K CA W s) σ H Q := by
  refine ⟨A, H0, F, G, ρ, sr, (MOk.lift h sr).imp fun x _ q v H1 s1 at1 => ?_⟩
  by_cases hT : T.ok x.2.2 = true
  · rw [if_pos hT] at q
    obtain ⟨f0, r0, _⟩ := at1.open sr s1
    refine ⟨MT.ty r0 hT, A, H0, F, G, ρ, sr.same s1, (MOk.lift (q.later s1) (sr.same s1)).imp fun xs _ q2 vs H2 g s2 rs os => ?_⟩
    cases ho : op x.2.2 xs with
    | none => simp only [ho] at q2; exact q2.elim
    | some y =>
      simp only [ho] at q2
      have at2 := at1.same s2
      obtain ⟨f0, r0, n0, m0, wr⟩ := at2.openM (sr.same s1) s2
      refine hok r0 n0 m0 rs os ho fun a o f0' w ea ha hm r' nf hf hmu rw' => ?_
      obtain ⟨ρ', F', e1, sr', e2⟩ := wr a o y.2 f0' ea ha hm r' nf hf hmu
      rw [e1] at q2
      exact q2 w _ _ F' [] sr' e2 (Same.refl _) rw' (KOk.nil _)
  · rw [if_neg hT] at q
    exact q.elim
theorem m_core0 {T : MT} (hok : MtOk X.K op r) {A : Addr → Prop} {H0 H : Hp} {F : Nat → List Addr} {G : List (D × V)} {ρ : Env} {σ : L2.St} {Q : VK} (sr : SR X.K A H0 F G ρ σ H) (h : MOk X.K CA W A H0 F ρ.length G σ H (mtM T sp nilA op ρ) Q) : tBM0 X.K T.T r (tP CA W X.K sp) σ H Q := by
  refine ⟨A, H0, F, G, ρ, sr, (MOk.lift h sr).imp fun x _ q v H1 s1 at1 => ?_⟩
  by_cases hT : T.ok x.2.2 = true
  · rw [if_pos hT] at q
    have q2 : MOk X.K CA W A H0 F ρ.length G σ H (match op x.2.2 [] with
      | some y => (match putAt ρ x y.2 with
        | some ρ' => .ri ρ' .own y.1
        | none => .st)
      | none => .st) Q := q
    obtain ⟨f0, r0, n0, m0, wr⟩ := at1.openM sr s1
    refine ⟨MT.ty r0 hT, ?_⟩
    cases ho : op x.2.2 [] with
    | none => simp only [ho] at q2; exact q2.elim
    | some y =>
      simp only [ho] at q2
      refine hok (A := A) (H0 := H0) (F := F) r0 n0 m0 .nil (KOk.nil _) ho fun a o f0' w ea ha hm r' nf hf hmu rw' => ?_
      obtain ⟨ρ', F', e1, sr', e2⟩ := wr a o y.2 f0' ea ha hm r' nf hf hmu
      rw [e1] at q2
      exact q2 w _ _ F' [] sr' e2 (Same.refl _) rw' (KOk.nil _)
  · rw [if_neg hT] at q
    exact q.elim
theorem m_mt (pa : PlainAttrs T.T) (slot : Slot T.T name id) (hty : typeOf (.builtin id) = pure (.type "method_descriptor")) (hm : MtR X id r) (hok : MtOk X.K op r) (ho : PE X o (tP CA W X.K sp)) (ha : PA X (e :: es) (tA X.K CA W s))
    (hbase : attributeBase o name X.env (eval o X.env) = eval o X.env := by rfl)
    (hfew : ((backTo p3 (starEach (e :: es) X.env)).all (fun x => !x.1) && (backToKw p3 (keywordEach [] X.env)).all (fun x => x.1.isSome) && decide ((e :: es).length + ([] : List Keyword).length + (if ([] : List Keyword).isEmpty then 0 else 1) < 30)) = true := by rfl)
    (hline : (p2.endLine == p3.line) = true := by rfl) (hst : starEach (e :: es) X.env = (false, eval e X.env) :: starEach es X.env := by rfl) (hplain : (backTo p3 (starEach es X.env)).any (·.1) = false := by rfl) :
    PE X (.Call (.Attribute o name p2) (e :: es) [] p3) (tM X.K CA W (mtM T sp s op)) :=
  peI (pe_bm pa slot hty hm ho ha hbase hfew hline hst hplain) fun σ H Q ⟨A, H0, F, G, ρ, sr, h⟩ => m_core hok sr h
theorem m_mt0 (pa : PlainAttrs T.T) (slot : Slot T.T name id) (hty : typeOf (.builtin id) = pure (.type "method_descriptor")) (hm : MtR X id r) (hok : MtOk X.K op r) (ho : PE X o (tP CA W X.K sp))
    (hbase : attributeBase o name X.env (eval o X.env) = eval o X.env := by rfl) (hline : (p2.endLine == p3.line) = true := by rfl) : PE X (.Call (.Attribute o name p2) [] [] p3) (tM X.K CA W (mtM T sp nilA op)) :=
  peI (pe_bm0 pa slot hty hm ho hbase hline) fun σ H Q ⟨A, H0, F, G, ρ, sr, h⟩ => m_core0 hok sr h
end
/-! ### a comprehension whose elements change something -/
def bosOk (ρ : Env) : Bool := ρ.all fun s => match s with
  | .bo is _ => is.all fun j => decide (j < ρ.length)
  | _ => true
def lcN (tg : Tgt) (elt : SM) (own : List Nat) : Env → List D → Option (Env × List D)
  | ρ, [] => some (ρ, [])
  | ρ, d :: ds => match tg (.bor []) d ρ with
    | none => none
    | some ρ1 => match elt ρ1 with
      | .ri ρ2 _ x => if noL x = true ∧ own.all (notOw ρ2) = true ∧ bosOk (wipE ρ2 own) = true ∧ (wipE ρ2 own).length = ρ.length then (match lcN tg elt own (wipE ρ2 own) ds with
        | some (ρ3, xs) => some (ρ3, x :: xs)
        | none => none) else none
      | _ => none
def lcM (it : SI) (own : List Nat) (tg : Tgt) (elt : SM) : SM := fun ρ => (it ρ).out ρ fun kds =>
  if kds.1.is.all (fun j => decide (j < ρ.length)) = true ∧ own.all (notOw (frz kds.1.is ρ)) = true ∧ kds.2.length ≤ LIM ∧ bosOk (wipE (frz kds.1.is ρ) own) = true then match lcN tg elt own (wipE (frz kds.1.is ρ) own) kds.2 with
    | some (ρ', xs) => .ri ρ' .own (.lst xs)
    | none => .st else .st
section
variable {K : PySem.W.Frag} {A : Addr → Prop} {H0 H H1 : Hp} {F : Nat → List Addr} {G : List (D × V)} {ρ : Env} {σ : L2.St} {CA : String → Addr} {Q : VK}
theorem SR.unwip {own : List Nat} (sr : SR K A H0 F G ρ (wipe σ own) H) (h : ∀ j ∈ own, ρ[j]? = some .no) : SR K A H0 F G ρ σ H := by
  refine { sr with len := by rw [sr.len, wipe_length], slo := fun i d e => ?_, slb := fun i is d e => ?_ }
  · obtain ⟨v, h1, h2⟩ := sr.slo i d e
    have hi : i ∉ own := fun z => by rw [h i z] at e; cases e
    exact ⟨v, by rw [← wipe_out hi]; exact h1, h2⟩
  · obtain ⟨v, f, h1, h2, h3⟩ := sr.slb i is d e
    have hi : i ∉ own := fun z => by rw [h i z] at e; cases e
    exact ⟨v, f, by rw [← wipe_out hi]; exact h1, h2, h3⟩
theorem SR.frzH : ∀ (is : List Nat) {F : Nat → List Addr} {ρ : Env}, SR K A H0 F G ρ σ H → ∃ F', SR K A H0 F' G (Cz.frz is ρ) σ H ∧ (∀ a, H a ≠ none → Sh A H0 F a → Sh A H0 F' a) ∧ (∀ a, (∃ j ∈ is, a ∈ F j) → Sh A H0 F' a) ∧ (∀ j, j ∉ is → F' j = F j) ∧ (∀ j, ∀ a ∈ F' j, a ∈ F j) ∧ (Cz.frz is ρ).length = ρ.length
  | [], F, ρ, sr => ⟨F, sr, fun _ _ h => h, (fun a ⟨j, hj, _⟩ => nomatch hj), fun _ _ => rfl, fun _ _ h => h, rfl⟩
  | j :: is, F, ρ, sr => by
    have hn : ∀ b ∈ ([] : List Addr), H b = none := fun b hb => nomatch hb
    obtain ⟨F', sr', h1, h2, h3, h4, h5⟩ := SR.frzH is (sr.frz1 j)
    refine ⟨F', sr', fun a ha h => h1 a ha (h.upd sr hn ha), fun a ⟨m, hm, q⟩ => ?_, fun m hm => ?_, fun m a ha => ?_, by rw [← frz1_len j ρ]; exact h5⟩
    · have ha : H a ≠ none := ((sr.own m).2 a q).2.ne
      by_cases e : m = j
      · subst e
        refine h1 a ha ⟨.inr ((sr.own m).2 a q).1, fun n hn' => ?_⟩
        by_cases e : n = m
        · rw [e, updF_same] at hn'; cases hn'
        · rw [updF_ne e] at hn'; exact e (sr.dis n m a hn' q)
      · rcases List.mem_cons.mp hm with z | hm
        · exact absurd z e
        · exact h2 a ⟨m, hm, by rw [updF_ne e]; exact q⟩
    · have hm' := List.not_mem_of_not_mem_cons hm
      rw [h3 m hm', updF_ne (fun e => hm (by rw [e]; exact List.mem_cons_self))]
    · have := h4 m a ha
      by_cases e : m = j
      · rw [e, updF_same] at this; cases this
      · rw [updF_ne e] at this; exact this
theorem bosOk_get {ρ : Env} (h : bosOk ρ = true) {i : Nat} {is : List Nat} {d : D} (e : ρ[i]? = some (.bo is d)) {L : Nat} (hL : ρ.length ≤ L) : L ∉ is := fun z => by
  have hm : Sl.bo is d ∈ ρ := List.mem_of_getElem? e
  have := List.all_eq_true.mp h _ hm
  simp only [List.all_eq_true, decide_eq_true_eq] at this
  have := this L z
  omega
def delH (H : Hp) (a : Addr) : Hp := fun b => if b = a then none else H b
theorem delH_ne {H : Hp} {a b : Addr} (h : b ≠ a) : delH H a b = H b := if_neg h
theorem delH_same {H : Hp} {a : Addr} : delH H a a = none := if_pos rfl
/-- the hidden list is let go -/
theorem SR.unhid {L : Nat} {Dn : Addr} {xs : List V} (sr : SR K A H0 F G ρ σ H) (hD : H Dn = some (.lst xs)) (hF : F L = [Dn]) (hL : ρ.length ≤ L) (hb : bosOk ρ = true) : SR K A H0 (updF F L []) G ρ σ (delH H Dn) := by
  have inD : Dn ∈ F L := by rw [hF]; simp
  have nD : H0 Dn = none := ((sr.own L).2 Dn inD).1
  have nt : ∀ b o, H b = some o → IsT o → (delH H Dn) b = some o := fun b o e t => by
    have : b ≠ Dn := fun z => by subst z; rw [hD] at e; cases e; exact t.elim
    rw [delH_ne this]; exact e
  have kp : ∀ {f : List Addr}, Dn ∉ f → ∀ b ∈ f, ∀ o, H b = some o → (delH H Dn) b = some o := fun {f} hf b hb o e => by
    have hne : b ≠ Dn := fun z => hf (by rw [← z]; exact hb)
    rw [delH_ne hne]; exact e
  have nF : ∀ j, j ≠ L → Dn ∉ F j := fun j hj z => hj (sr.dis j L Dn z inD)
  have shN : ∀ {a}, Sh A H0 F a → a ≠ Dn := fun {a} h z => h.2 L (z ▸ inD)
  have shU : ∀ {a}, Sh A H0 F a → Sh A H0 (updF F L []) a := fun {a} h => ⟨h.1, fun j hj => by
    by_cases e : j = L
    · subst e; rw [updF_same] at hj; cases hj
    · rw [updF_ne e] at hj; exact h.2 j hj⟩
  refine ⟨sr.len, fun b o e => ?_, fun i => ?_, fun i j a hi hj => ?_, fun i d e => ?_, fun i is d e => ?_, fun p hp => ?_, fun i hi hn => ?_, fin_upd sr.fin⟩
  · have : b ≠ Dn := fun z => by subst z; rw [nD] at e; cases e
    rw [delH_ne this]; exact sr.fr b o e
  · by_cases e : i = L
    · subst e; rw [updF_same]; exact ⟨List.nodup_nil, fun a ha => nomatch ha⟩
    · rw [updF_ne e]
      refine ⟨(sr.own i).1, fun a ha => ⟨((sr.own i).2 a ha).1, ?_⟩⟩
      have : a ≠ Dn := fun z => nF i e (z ▸ ha)
      have m := ((sr.own i).2 a ha).2
      exact ⟨by rw [delH_ne this]; exact m.m⟩
  · have up : ∀ {j a}, a ∈ updF F L [] j → a ∈ F j := fun {j a} h => by
      by_cases e : j = L
      · subst e; rw [updF_same] at h; cases h
      · rw [updF_ne e] at h; exact h
    exact sr.dis i j a (up hi) (up hj)
  · obtain ⟨v, h1, h2⟩ := sr.slo i d e
    have hi : i ≠ L := by have := (List.getElem?_eq_some_iff.mp e).1; omega
    exact ⟨v, h1, by rw [updF_ne hi]; exact h2.frame nt (kp (nF i hi))⟩
  · obtain ⟨v, f, h1, h2, h3⟩ := sr.slb i is d e
    have hLi := bosOk_get hb e hL
    have hf : Dn ∉ f := fun z => by
      rcases h3 Dn z with ⟨j, hj, q⟩ | q
      · exact nF j (fun e => hLi (by rw [← e]; exact hj)) q
      · exact shN q rfl
    refine ⟨v, f, h1, h2.frame nt (kp hf), fun a ha => ?_⟩
    rcases h3 a ha with ⟨j, hj, q⟩ | q
    · have hjL : j ≠ L := fun e => hLi (by rw [← e]; exact hj)
      exact .inl ⟨j, hj, by rw [updF_ne hjL]; exact q⟩
    · exact .inr (shU q)
  · obtain ⟨f, h1, h2⟩ := sr.gho p hp
    exact ⟨f, h1.frame nt (kp fun z => shN (h2 Dn z) rfl), fun a ha => shU (h2 a ha)⟩
  · have hi' : i ≠ L := by omega
    rw [updF_ne hi'] at hn
    exact sr.emp i hi hn
end
section
variable {X : Cx} {CA : String → Addr} {W : WX}
theorem m_lc {elt tg iter : Expr} {scope : Scope} {pos : Pos} {si : SI} {t : Tgt} {sm : SM} {sl : List Nat} (own : List (Str × Nat)) (hc : X.calm = true) (hN : X.N.Nodup) (hi : PI X tg iter (tI X.K CA W si)) (ok : BlkOk X.N X.env.scope scope own)
    (hg : ∀ (s : Shared) (H : Hp) (C : Addr) (cl : List (Str × Addr)) (fp : List Addr), PG (X.blk s H scope (compEnvC scope cl C X.env) fp) tg (tG X.K sl t)) (hsl : ∀ j ∈ sl, j ∈ own.map (·.2))
    (he : ∀ (s : Shared) (H : Hp) (C : Addr) (cl : List (Str × Addr)) (fp : List Addr), PE (X.blk s H scope (compEnvC scope cl C X.env) fp) elt (tM X.K CA W0 sm)) (hs : ∀ x, foldedSetIterable iter X.env x = pure x := by intro _; rfl) :
    PE X (.ListComp elt [⟨tg, iter, [], 0⟩] scope pos) (tM X.K CA W (lcM si (own.map (·.2)) t sm)) := by
  refine peI (pe_lc (tt := tT X.K CA W0 yesT) hc hN hi ok hg (fun _ _ _ _ _ => ts_nil) he hs) fun σ H Q ⟨A, H0, F, G, ρ, sr, h⟩ => ?_
  refine ⟨A, H0, F, G, ρ, sr, (MOk.lift h sr).imp fun ⟨k, ds⟩ _ q => ?_⟩
  intro J H1 gh s1 it gk Dn nD
  generalize hown' : own.map (·.2) = ow at *
  by_cases hc0 : k.is.all (fun j => decide (j < ρ.length)) = true ∧ ow.all (notOw (Cz.frz k.is ρ)) = true ∧ ds.length ≤ LIM ∧ bosOk (wipE (Cz.frz k.is ρ) ow) = true
  case neg => simp only [hc0, if_false] at q; exact q.elim
  have q : MOk X.K CA W A H0 F ρ.length G σ H (match lcN t sm ow (wipE (Cz.frz k.is ρ) ow) ds with
    | some (ρ', xs) => .ri ρ' .own (.lst xs)
    | none => .st) Q := by simpa only [hc0, and_self, if_true] using q
  obtain ⟨hki, hown, hlen, hbos⟩ := hc0
  cases hl : lcN t sm ow (wipE (Cz.frz k.is ρ) ow) ds with
  | none => rw [hl] at q; exact q.elim
  | some r =>
  obtain ⟨ρ', total⟩ := r
  rw [hl] at q
  simp only at q
  have sr1 := sr.same s1
  obtain ⟨F1, srf, t1, t2, t3, t4, t5⟩ := SR.frzH k.is sr1
  have gk1 : Gh X.K H1 (Sh A H0 F1) gh := fun p hp => let ⟨f, h1, h2⟩ := gk p hp; ⟨f, h1, fun a ha => (h2 a ha).elim (t2 a) (t1 a (h1.trk a ha))⟩
  have srg := srf.gadd gk1
  have srw := srg.wip ow hown
  -- a hidden owner
  obtain ⟨L0, hL0⟩ := srw.fin
  obtain ⟨L, hLe⟩ : ∃ L, L = max L0 ρ.length := ⟨_, rfl⟩
  have hFL : F1 L = [] := hL0 L (by omega)
  have hLr : ρ.length ≤ L := by omega
  have hwl : (wipE (Cz.frz k.is ρ) ow).length = ρ.length := by rw [wipE_len, t5]
  have hkL : ∀ j ∈ k.is, j < ρ.length := fun j hj => by simpa using List.all_eq_true.mp hki j hj
  have hFL0 : F L = [] := by rw [← t3 L (fun z => by have := hkL L z; omega)]; exact hFL
  have sD := same_upd (o := .lst []) nD
  have srD : SR X.K A H0 (updF F1 L [Dn]) (gh ++ G) (wipE (Cz.frz k.is ρ) ow) (wipe σ ow) (upd H1 Dn (.lst [])) := srw.hid nD (by rw [hwl]; exact hLr) hFL
  have noOw : ∀ {ρ : Env}, ow.all (notOw ρ) = true → ∀ j ∈ ow, (wipE ρ ow)[j]? = some .no := fun {ρ} h j hj => wipE_in hj (of_decide_eq_true (Bool.and_eq_true_iff.mp (List.all_eq_true.mp h j hj)).1)
  have hlt : ∀ {ρ : Env}, ow.all (notOw ρ) = true → ∀ j ∈ ow, j < ρ.length := fun {ρ} h j hj => of_decide_eq_true (Bool.and_eq_true_iff.mp (List.all_eq_true.mp h j hj)).1
  have eff0 : Eff ρ.length F (updF F1 L [Dn]) H (upd H1 Dn (.lst [])) → True := fun _ => trivial
  -- the change so far, but for the hidden list
  have w : Walk J ds.length (fun H2 => Gh X.K H2 (fun _ => True) gh) (fun i H2 x H' => ∀ P, Gh X.K H2 P gh → Same H2 H' ∧ ∃ d f, ds[i]? = some d ∧ Rep X.K H' d x f ∧ ∀ a ∈ f, P a) :=
    ⟨fun i H2 hi g => it.go H2 _ i hi g, fun H2 g => it.stop H2 _ g, fun i H2 x H' hi g y P hP => it.yld H2 P i x H' hi hP y⟩
  refine lc_it w (fun i H2 => ∃ ρi Fi xs rest vs, lcN t sm ow ρi (ds.drop i) = some (ρ', rest) ∧ xs ++ rest = total ∧ H2 Dn = some (.lst vs) ∧ Reps X.K H2 xs vs [] ∧ noLs xs = true ∧ SR X.K A H0 Fi (gh ++ G) ρi (wipe σ ow) H2 ∧ ρi.length = ρ.length ∧ Fi L = [Dn] ∧ (∀ j, ρ.length ≤ j → j ≠ L → Fi j = F j) ∧
      (∀ a o, H a = some o → (∀ j, j < ρ.length → a ∉ F j) → H2 a = some o) ∧ (∀ j, j < ρ.length → ∀ a ∈ Fi j, (∃ i, i < ρ.length ∧ a ∈ F i) ∨ H a = none) ∧ vs.length ≤ i ∧ bosOk ρi = true ∧ ∀ j ∈ ow, ρi[j]? = some .no)
    ⟨wipE (Cz.frz k.is ρ) ow, updF F1 L [Dn], [], total, [], hl, rfl, upd_same, .nil, by simp [noLs], srD, hwl, updF_same, fun j hj hjL => ?_, fun a o e hn => ?_, fun j hj a ha => ?_, Nat.le_refl _, hbos, noOw hown⟩
    (fun i H2 _ ⟨ρi, Fi, _, _, _, _, _, _, _, _, srI, _⟩ p hp => let ⟨f, h1, _⟩ := srI.gho p (List.mem_append_left _ hp); ⟨f, h1, fun _ _ => trivial⟩) ?_ ?_
  · rw [updF_ne hjL]; exact t3 j fun z => by have := hkL j z; omega
  · exact sD _ _ (s1 _ _ e)
  · have hjL : j ≠ L := by omega
    rw [updF_ne hjL] at ha
    exact .inl ⟨j, hj, t4 j a ha⟩
  · rintro i x H2 H' hi ⟨ρi, Fi, xs, rest, vs, hli, hx, hD, hr, hnl, srI, hlI, hFiL, hhid, hfr, hvis, hv, hbi, hnoI⟩ y
    obtain ⟨sy, d, f, hd, r, hf⟩ := y (Sh A H0 Fi) fun p hp => srI.gho p (List.mem_append_left _ hp)
    have hdrop : ds.drop i = d :: ds.drop (i + 1) := by
      rw [List.drop_eq_getElem_cons hi]
      congr 1
      rw [List.getElem?_eq_getElem hi] at hd
      exact Option.some.inj hd
    rw [hdrop] at hli
    unfold lcN at hli
    refine ⟨A, H0, H', Fi, gh ++ G, ρi, .bor [], d, f, srI.same sy, Same.refl _, r, fun a ha => .inr (hf a ha), ?_⟩
    cases h1 : t (.bor []) d ρi with
    | none => rw [h1] at hli; cases hli
    | some ρ1 =>
    rw [h1] at hli
    simp only at hli
    intro σ2 F2 p
    have hF2 : F2 = Fi := by
      funext j
      by_cases hj : j ∈ sl
      · have hjo := hsl j hj
        rw [p.bor rfl j hj]
        cases hFj : Fi j with
        | nil => rfl
        | cons a as =>
          obtain ⟨d', e'⟩ := srI.emp j (by have := (List.getElem?_eq_some_iff.mp (hnoI j hjo)).1; exact this) (by rw [hFj]; exact fun z => nomatch z)
          rw [hnoI j hjo] at e'; cases e'
      · exact (p.out j hj).2
    subst hF2
    have hlen1 : ρ1.length = ρi.length := by rw [p.sr.len, p.len, ← srI.len]
    have hw2 : wipe σ2 ow = wipe σ ow := wipe_eq (by rw [p.len, wipe_length]) (fun j hj => (p.out j fun z => hj (hsl j z)).1)
    refine ⟨hw2, A, H0, _, gh ++ G, ρ1, p.sr, fun H3 s3 => ?_⟩
    simp only [if_true]
    refine ⟨A, H0, _, gh ++ G, ρ1, p.sr.same s3, ?_⟩
    cases h2 : sm ρ1 with
    | ri ρ2 k' x' =>
      rw [h2] at hli
      simp only at hli
      split at hli
      case isFalse => cases hli
      rename_i hcond
      obtain ⟨hxn, how2, hb2, hl2⟩ := hcond
      cases h3 : lcN t sm ow (wipE ρ2 ow) (ds.drop (i + 1)) with
      | none => rw [h3] at hli; cases hli
      | some r3 =>
      obtain ⟨ρ3, xs3⟩ := r3
      rw [h3] at hli
      simp only [Option.some.injEq, Prod.mk.injEq] at hli
      obtain ⟨e1, e2⟩ := hli
      subst e1; subst e2
      intro v Hx H4 F4 f4 sr4 ef s4 r4 o4
      have hn1 : ρ1.length = ρ.length := by rw [hlen1, hlI]
      rw [hn1] at ef
      have hf4 := Rep.noL r4 hxn
      subst hf4
      have inD : Dn ∈ F2 L := by rw [hFiL]; simp
      have hDn : ∀ j, j < ρ.length → Dn ∉ F2 j := fun j hj z => by
        have := srI.dis j L Dn z inD
        omega
      have hD3 : H3 Dn = some (.lst vs) := s3 _ _ (sy _ _ hD)
      have hDx : Hx Dn = some (.lst vs) := ef.fr Dn _ hD3 hDn
      have hD4 := s4 _ _ hDx
      have hF4L : F4 L = [Dn] := by rw [ef.hid L hLr]; exact hFiL
      have sr5 := (sr4.same s4).wip ow how2
      have hwσ : wipe σ2 ow = wipe σ ow := hw2
      rw [hwσ] at sr5
      have hl5 : (wipE ρ2 ow).length = ρ.length := by rw [hl2, hlI]
      have sr6 : SR X.K A H0 F4 (gh ++ G) (wipE ρ2 ow) (wipe σ ow) (upd H4 Dn (.lst (vs ++ [v]))) := sr5.mutH hD4 (by rw [hF4L]; simp) (by rw [hl5]; exact hLr) (fun i is d e => bosOk_get hb2 e (by rw [hl5]; exact hLr))
      have nt : ∀ b o, H4 b = some o → IsT o → (upd H4 Dn (.lst (vs ++ [v]))) b = some o := fun b o e t => by
        by_cases h : b = Dn
        · subst h; rw [hD4] at e; cases e; exact t.elim
        · rw [upd_ne h]; exact e
      -- the items so far lean on tuples alone
      have hrx : Reps X.K H4 xs vs [] := by
        have r3 : Reps X.K H3 xs vs [] := (hr.same sy).same s3
        have : Reps X.K Hx xs vs [] := r3.frame (fun b o e t => ef.fr b o e fun j hj z => by
          have m := ((p.sr.same s3).own j).2 b z |>.2
          rw [e] at m
          have := m.m
          cases o <;> first | exact t.elim | exact this.elim) fun a ha => nomatch ha
        exact this.same s4
      refine ⟨vs, hD4, by rw [← lim_eq]; omega, wipE ρ2 ow, F4, xs ++ [x'], xs3, vs ++ [v], h3, by rw [List.append_assoc]; exact hx, upd_same, ?_, ?_, sr6, hl5, hF4L, fun j hj hjL => ?_, fun a o e hn => ?_, fun j hj a ha => ?_, by rw [List.length_append]; simp; omega, hb2, noOw how2⟩
      · have one : Reps X.K (upd H4 Dn (.lst (vs ++ [v]))) [x'] [v] [] := by
          have := Reps.cons (r4.frame nt fun a ha => nomatch ha) (Reps.nil (K := X.K) (H := upd H4 Dn (.lst (vs ++ [v]))))
          exact this
        exact (hrx.frame nt fun a ha => nomatch ha).app one
      · have : ∀ l : List D, noLs l = true → noLs (l ++ [x']) = true := fun l => by
          induction l with
          | nil => intro _; simp [noLs, hxn]
          | cons a l ih => intro h; simp only [List.cons_append, noLs, Bool.and_eq_true] at h ⊢; exact ⟨h.1, ih h.2⟩
        exact this xs hnl
      · rw [ef.hid j hj]; exact hhid j hj hjL
      · have hne : a ≠ Dn := fun z => by subst z; rw [s1.free nD] at e; cases e
        rw [upd_ne hne]
        refine s4 _ _ (ef.fr a o (s3 _ _ (sy _ _ (hfr a o e hn))) fun j hj z => ?_)
        rcases hvis j hj a z with ⟨i, hi, q⟩ | q
        · exact hn i hi q
        · rw [q] at e; cases e
      · rcases ef.vis j hj a ha with ⟨i, hi, q⟩ | q
        · exact hvis i hi a q
        · rcases Classical.em (∃ i, i < ρ.length ∧ a ∈ F i) with z | z
          · exact .inl z
          · right
            cases e : H a with
            | none => rfl
            | some o => rw [s3 _ _ (sy _ _ (hfr a o e fun i hi q => z ⟨i, hi, q⟩))] at q; cases q
    | _ => rw [h2] at hli; cases hli
  · rintro H2 ⟨ρi, Fi, xs, rest, vs, hli, hx, hD, hr, hnl, srI, hlI, hFiL, hhid, hfr, hvis, hv, hbi, hnoI⟩
    rw [List.drop_length] at hli
    unfold lcN at hli
    simp only [Option.some.injEq, Prod.mk.injEq] at hli
    obtain ⟨e1, e2⟩ := hli
    subst e1; subst e2
    rw [List.append_nil] at hx
    subst hx
    have nH : H Dn = none := s1.free nD
    have sr2 : SR X.K A H0 (updF Fi L []) (gh ++ G) ρi σ (delH H2 Dn) := (srI.unhid hD hFiL (by rw [hlI]; exact hLr) hbi).unwip hnoI
    have sm : Same (delH H2 Dn) H2 := fun b o e => by
      unfold delH at e
      split at e
      · cases e
      · exact e
    refine q (.ref Dn) (delH H2 Dn) H2 (updF Fi L []) [Dn] (sr2.gsub fun p hp => List.mem_append_right _ hp) ⟨fun j hj => ?_, fun a o e hn => ?_, fun j hj a ha => ?_⟩ sm (.lst hD hr) ⟨by simp, fun a ha => ?_⟩
    · by_cases e : j = L
      · subst e; rw [updF_same, hFL0]
      · rw [updF_ne e]; exact hhid j hj e
    · have hne : a ≠ Dn := fun z => by subst z; rw [nH] at e; cases e
      rw [delH_ne hne]; exact hfr a o e hn
    · have hjL : j ≠ L := by omega
      rw [updF_ne hjL] at ha; exact hvis j hj a ha
    · rw [List.mem_singleton.mp ha]
      exact ⟨delH_same, ⟨by rw [hD]; trivial⟩⟩
end
end Cz
set_option maxHeartbeats 2000000
/-! Cz20: defs that call themselves; x[::-1]; texts joined and split. -/
namespace Cz
open PySem PySem.Spec PyProof.Rows L2
/-- a def that calls itself, by the depth that is left -/
noncomputable def recF (n m : Nat) (b : Fn → SS) : Nat → Fn
  | 0 => mkF n m fun _ => .st
  | i + 1 => mkF n m (b (recF n m b i))
theorem recF_0 {n m : Nat} {b : Fn → SS} : recF n m b 0 = mkF n m fun _ => .st := rfl
theorem recF_s {n m i : Nat} {b : Fn → SS} : recF n m b (i + 1) = mkF n m (b (recF n m b i)) := rfl
theorem mkF_len {n m : Nat} {b : SS} {as : List D} (h : mkF n m b as ≠ .st) : as.length = n := by
  unfold mkF at h
  split at h
  · assumption
  · exact absurd rfl h
theorem recF_len {n m i : Nat} {b : Fn → SS} {as : List D} (h : recF n m b i as ≠ .st) : as.length = n := by
  cases i with
  | zero => exact mkF_len h
  | succ i => exact mkF_len h
theorem ss_st {X : Cx} {CA : String → Addr} {W : WX} {sts : List Stmt} (h : PSs X sts (fun _ _ _ => False)) : PSs X sts (tS X.K CA W fun _ => .st) := pssI h fun D σ H ⟨A, H0, F, G, ρ, sr, h⟩ => h
theorem ss_no {X : Cx} {sts : List Stmt} : PSs X sts (fun _ _ _ => False) := ⟨fun _ _ _ _ _ _ h => h.elim⟩
section
variable {P : Program} {w : World} {K : PySem.W.Frag} {mg : Str → Option Value} {base : Heap} {CA : String → Addr}
theorem fn_gr {k : Nat} {x : String} {n m i : Nat} {b : Fn → SS} {ps : List Str} {f : Addr} {fd : FuncData} (hm : mg (Str.ofString x) = some (.ref f)) (h : FnOk P w K mg base (L2.CX P w) k f fd ps (spF K CA (recF n m b i) ps.length))
    (kp : PySem.W.keepIn K (.ref f) = true) (bi : Binds K fd ps []) (hn : n = ps.length) : FnG P w K mg base CA (recF n m b i) k x [] :=
  ⟨f, fd, ps, [], [], hm, h, kp, bi, .nil, fun _ => .nil, fun as z => hn ▸ recF_len z⟩
end
section
variable {K : PySem.W.Frag} {H : Hp}
theorem Reps.rev : ∀ {ds : List D} {vs : List V} {f : List Addr}, Reps K H ds vs f → ∃ g, Reps K H ds.reverse vs.reverse g ∧ (∀ b ∈ g, b ∈ f) ∧ (f.Nodup → g.Nodup)
  | _, _, _, .nil => ⟨[], .nil, fun _ h => h, fun h => h⟩
  | _, _, _, .cons (f := f1) (g := g1) r t => by
    obtain ⟨g, h1, h2, h3⟩ := Reps.rev t
    have one := Reps.cons r (Reps.nil (K := K) (H := H))
    refine ⟨g ++ (f1 ++ []), by rw [List.reverse_cons, List.reverse_cons]; exact h1.app one, fun b hb => ?_, fun n => ?_⟩
    · rcases List.mem_append.mp hb with z | z
      · exact List.mem_append_right _ (h2 b z)
      · rw [List.append_nil] at z; exact List.mem_append_left _ z
    · rw [List.append_nil]
      obtain ⟨n1, n2, n3⟩ := List.nodup_append.mp n
      exact List.nodup_append.mpr ⟨h3 n2, n1, fun a ha b hb e => n3 b hb a (h2 a ha) e.symm⟩
end
def revD : KD → Option KD
  | (k, .lst ds) => some (lk k ds.reverse, .lst ds.reverse)
  | _ => none
/-- x[::-1] -/
def revlE (a : SE) : SE := fun ρ => (a ρ).bind fun x => R.of (revD x)
def strsD : List D → Option (List Str)
  | [] => some []
  | .str x :: r => (strsD r).map (x :: ·)
  | _ :: _ => none
theorem strsD_eq : ∀ {ds : List D} {ys : List Str}, strsD ds = some ys → ds = ys.map D.str
  | [], _, e => by cases e; rfl
  | .str x :: r, ys, e => by
    unfold strsD at e
    cases h : strsD r with
    | none => rw [h] at e; cases e
    | some zs => rw [h] at e; cases e; rw [strsD_eq h]; rfl
  | .non :: _, _, e => by cases e
  | .bl _ :: _, _, e => by cases e
  | .int _ :: _, _, e => by cases e
  | .tup _ :: _, _, e => by cases e
  | .lst _ :: _, _, e => by cases e
  | .scr _ :: _, _, e => by cases e
  | .dic _ :: _, _, e => by cases e
  | .fn _ :: _, _, e => by cases e
  | .obj _ _ _ :: _, _, e => by cases e
  | .dtk _ :: _, _, e => by cases e
  | .sob _ _ :: _, _, e => by cases e
  | .fdc _ :: _, _, e => by cases e
  | .exv _ _ _ _ :: _, _, e => by cases e
  | .nod _ _ :: _, _, e => by cases e
@[simp] theorem strsD_map : ∀ ys : List Str, strsD (ys.map D.str) = some ys
  | [] => rfl
  | y :: ys => by rw [List.map_cons]; show (strsD (ys.map D.str)).map (y :: ·) = _; rw [strsD_map ys]; rfl
theorem Reps.strs_inv {K : PySem.W.Frag} {H : Hp} : ∀ {ys : List Str} {vs : List V} {f : List Addr}, Reps K H (ys.map D.str) vs f → vs = ys.map V.str
  | [], _, _, h => by cases h; rfl
  | y :: ys, _, _, h => by
    cases h with
    | cons r t => cases r; rw [Reps.strs_inv t]; rfl
theorem Reps.strs {K : PySem.W.Frag} {H : Hp} : ∀ (ys : List Str), Reps K H (ys.map D.str) (ys.map V.str) []
  | [] => .nil
  | y :: ys => .cons (f := []) (g := []) (.str y) (Reps.strs ys)
def joinB (z : Str) : D → Option KD
  | .lst ds => (strsD ds).bind fun ys => if (ys.map (·.length)).sum + ys.length * z.length ≤ 16777216 then some (.own, .str (Txt.join z ys)) else none
  | .tup ds => (strsD ds).bind fun ys => if (ys.map (·.length)).sum + ys.length * z.length ≤ 16777216 then some (.own, .str (Txt.join z ys)) else none
  | _ => none
/-- z.join(e) -/
def joinE (a b : SE) : SE := fun ρ => (a ρ).bind fun x => match x.2 with
  | .str z => (b ρ).bind fun y => R.of (joinB z y.2)
  | _ => .st
def splitB (z : Str) : D → Option KD
  | .str b => if b.length ≠ 0 ∧ z.length + 2 ≤ LIM then some (.own, .lst ((Txt.split z b).map D.str)) else none
  | _ => none
/-- z.split(e) -/
def splitE (a b : SE) : SE := fun ρ => (a ρ).bind fun x => match x.2 with
  | .str z => (b ρ).bind fun y => R.of (splitB z y.2)
  | _ => .st
section
variable {X : Cx} {CA : String → Addr} {W : WX} {pos p1 p2 p3 apos : Pos} {a e : Expr} {sa sb : SE}
theorem e_revl {k : Nat} (ha : PE X a (tE X.K CA W sa)) : PE X (.Subscript a (.Slice none none (some (.UnaryOp .USub (.Constant (.int 1) k p1) p2)) p3) pos) (tE X.K CA W (revlE sa)) := by
  refine peI (pe_revL ha) fun σ H Q ⟨A, H0, F, G, ρ, sr, h⟩ => ?_
  refine ⟨A, H0, F, G, ρ, sr, h.bind fun ⟨k, d⟩ h1 => ?_⟩
  intro v H1 f s r o
  obtain ⟨kd, e, q⟩ := h1.of
  cases d with
  | lst ds =>
    simp only [revD, Option.some.injEq] at e
    subst e
    obtain ⟨l, vs, g, rfl, t, rs, i1, n1⟩ := r.lstI
    obtain ⟨g', r', i2, n2⟩ := rs.rev
    exact ⟨l, vs, rfl, t, fun p np => q.newL sr s r' ((o.sub i1 n1).sub i2 n2 |>.lk r') np⟩
  | _ => cases e
theorem e_join (ha : PE X a (tE X.K CA W sa)) (hb : PE X e (tE X.K CA W sb)) (hs : starEach [e] X.env = [(false, eval e X.env)] := by rfl) (hbase : attributeBase a "join" X.env (eval a X.env) = eval a X.env := by rfl) (hline : (apos.endLine == pos.line) = true := by rfl) :
    PE X (.Call (.Attribute a "join" apos) [e] [] pos) (tE X.K CA W (joinE sa sb)) := by
  refine peI (pe_join ha hb hs hbase hline) fun σ H Q ⟨A, H0, F, G, ρ, sr, h⟩ => ?_
  refine ⟨A, H0, F, G, ρ, sr, h.bind fun ⟨k, d⟩ h1 => ?_⟩
  intro v H1 f s r o
  cases d with
  | str z =>
    cases r
    refine ⟨⟨z, rfl⟩, A, H0, F, G, ρ, sr.same s, Post.bind (h1.later s) fun ⟨k2, d2⟩ h2 => ?_⟩
    intro v2 H2 f2 s2 r2 o2
    obtain ⟨kd, e, q⟩ := h2.of
    have key : ∀ {ds : List D} {vs : List V} {g : List Addr}, Reps X.K H2 ds vs g → ((strsD ds).bind fun ys => if (ys.map (·.length)).sum + ys.length * z.length ≤ 16777216 then some ((Kd.own, D.str (Txt.join z ys)) : KD) else none) = some kd →
        ∃ ys : List Str, vs = ys.map V.str ∧ (ys.map (·.length)).sum + ys.length * z.length ≤ 16777216 ∧ Q (.str (Txt.join z ys)) H2 := fun {ds vs g} rs e => by
      cases hy : strsD ds with
      | none => rw [hy] at e; cases e
      | some ys =>
        rw [hy] at e
        simp only [Option.bind_some] at e
        split at e
        · rename_i hz
          cases e
          have := strsD_eq hy
          subst this
          exact ⟨ys, rs.strs_inv, hz, q.atom (s.trans s2) (.str _)⟩
        · cases e
    cases d2 with
    | lst ds =>
      obtain ⟨l, vs, g, rfl, t, rs, _, _⟩ := r2.lstI
      obtain ⟨ys, e1, e2, e3⟩ := key rs e
      subst e1
      exact ⟨z, l, ys, rfl, rfl, .inl t, e2, e3⟩
    | tup ds =>
      obtain ⟨l, vs, rfl, t, rs⟩ := r2.tupI
      obtain ⟨ys, e1, e2, e3⟩ := key rs e
      subst e1
      exact ⟨z, l, ys, rfl, rfl, .inr (.of t), e2, e3⟩
    | _ => cases e
  | _ => exact h1.elim
theorem e_split (ha : PE X a (tE X.K CA W sa)) (hb : PE X e (tE X.K CA W sb)) (hs : starEach [e] X.env = [(false, eval e X.env)] := by rfl) (hbase : attributeBase a "split" X.env (eval a X.env) = eval a X.env := by rfl) (hline : (apos.endLine == pos.line) = true := by rfl) :
    PE X (.Call (.Attribute a "split" apos) [e] [] pos) (tE X.K CA W (splitE sa sb)) := by
  refine peI (pe_split ha hb hs hbase hline) fun σ H Q ⟨A, H0, F, G, ρ, sr, h⟩ => ?_
  refine ⟨A, H0, F, G, ρ, sr, h.bind fun ⟨k, d⟩ h1 => ?_⟩
  intro v H1 f s r o
  cases d with
  | str z =>
    cases r
    refine ⟨⟨z, rfl⟩, A, H0, F, G, ρ, sr.same s, Post.bind (h1.later s) fun ⟨k2, d2⟩ h2 => ?_⟩
    intro v2 H2 f2 s2 r2 o2
    obtain ⟨kd, e, q⟩ := h2.of
    cases d2 with
    | str b =>
      cases r2
      simp only [splitB] at e
      split at e
      · rename_i hz
        cases e
        refine ⟨z, b, rfl, rfl, by simpa using hz.1, by rw [← lim_eq]; exact hz.2, fun p np => ?_⟩
        exact q _ _ [p] ((s.trans s2).trans (same_upd np)) (.lst upd_same (Reps.strs _)) ⟨by simp, fun a ha => by
          have : a = p := by simpa using ha
          subst this
          exact ⟨(s.trans s2).free np, ⟨by rw [upd_same]; trivial⟩⟩⟩
      · cases e
    | _ => cases e
  | _ => exact h1.elim
end
end Cz
set_option maxHeartbeats 2000000
/-! Cz21: defs that take one of their arguments for their own. -/
namespace Cz
open PySem PySem.Spec PyProof.Rows L2
open Classical in
/-- the heap without these nodes -/
noncomputable def hidH (H : Hp) (g : List Addr) : Hp := fun a => if a ∈ g then none else H a
theorem hidH_in {H : Hp} {g : List Addr} {a : Addr} (h : a ∈ g) : hidH H g a = none := if_pos h
theorem hidH_out {H : Hp} {g : List Addr} {a : Addr} (h : a ∉ g) : hidH H g a = H a := if_neg h
theorem hidH_none {H : Hp} {g : List Addr} {a : Addr} (h : hidH H g a = none) : a ∈ g ∨ H a = none := by
  by_cases q : a ∈ g
  · exact .inl q
  · rw [hidH_out q] at h; exact .inr h
theorem same_hid (H : Hp) (g : List Addr) : Same (hidH H g) H := fun a o e => by
  by_cases q : a ∈ g
  · rw [hidH_in q] at e; cases e
  · rw [hidH_out q] at e; exact e
/-- arguments, the nodes of the one at i apart -/
def RepsI (K : PySem.W.Frag) (H : Hp) : Nat → List D → List V → List Addr → List Addr → Prop
  | 0, d :: ds, v :: vs, f, g => Rep K H d v g ∧ Reps K H ds vs f
  | i + 1, d :: ds, v :: vs, f, g => ∃ f1 f2, f = f1 ++ f2 ∧ Rep K H d v f1 ∧ RepsI K H i ds vs f2 g
  | _, _, _, _, _ => False
theorem RepsI.length {K : PySem.W.Frag} {H : Hp} : ∀ {i : Nat} {ds : List D} {vs : List V} {f g : List Addr}, RepsI K H i ds vs f g → ds.length = vs.length
  | 0, d :: ds, v :: vs, f, g, h => by simp [h.2.length]
  | i + 1, d :: ds, v :: vs, f, g, h => by obtain ⟨f1, f2, _, _, h⟩ := h; simp [RepsI.length h]
  | 0, [], _, _, _, h => h.elim
  | 0, _ :: _, [], _, _, h => h.elim
  | _ + 1, [], _, _, _, h => h.elim
  | _ + 1, _ :: _, [], _, _, h => h.elim
theorem RepsI.get {K : PySem.W.Frag} {H : Hp} : ∀ {i : Nat} {ds : List D} {vs : List V} {f g : List Addr}, RepsI K H i ds vs f g → ∀ {j : Nat} {d : D}, ds[j]? = some d → ∃ v, vs[j]? = some v ∧ ((j = i ∧ Rep K H d v g) ∨ (j ≠ i ∧ ∃ f', Rep K H d v f' ∧ ∀ b ∈ f', b ∈ f))
  | 0, d :: ds, v :: vs, f, g, h, 0, e, he => by simp at he; subst he; exact ⟨v, rfl, .inl ⟨rfl, h.1⟩⟩
  | 0, d :: ds, v :: vs, f, g, h, j + 1, e, he => by
    obtain ⟨w, f', h1, h2, h3, _⟩ := h.2.get (i := j) (d := e) (by simpa using he)
    exact ⟨w, by simpa using h1, .inr ⟨by omega, f', h2, h3⟩⟩
  | i + 1, d :: ds, v :: vs, f, g, h, 0, e, he => by
    obtain ⟨f1, f2, rfl, r, h⟩ := h
    simp at he; subst he
    exact ⟨v, rfl, .inr ⟨by omega, f1, r, fun b hb => List.mem_append_left _ hb⟩⟩
  | i + 1, d :: ds, v :: vs, f, g, h, j + 1, e, he => by
    obtain ⟨f1, f2, rfl, r, h⟩ := h
    obtain ⟨w, h1, h2⟩ := RepsI.get h (j := j) (d := e) (by simpa using he)
    refine ⟨w, by simpa using h1, ?_⟩
    rcases h2 with ⟨h2, h3⟩ | ⟨h2, f', h3, h4⟩
    · exact .inl ⟨by omega, h3⟩
    · exact .inr ⟨by omega, f', h3, fun b hb => List.mem_append_right _ (h4 b hb)⟩
  | 0, [], _, _, _, h, _, _, _ => h.elim
  | 0, _ :: _, [], _, _, h, _, _, _ => h.elim
  | _ + 1, [], _, _, _, h, _, _, _ => h.elim
  | _ + 1, _ :: _, [], _, _, h, _, _, _ => h.elim
def ownK : Kd → Bool
  | .own => true
  | _ => false
theorem ownK_eq {k : Kd} (h : ownK k = true) : k = .own := by cases k <;> first | rfl | cases h
/-- the kind of the other arguments, where the one at i is given away and none behind it has lists -/
def splO : Nat → List KD → Option Kd
  | 0, x :: xs => if ownK (nk x.1 x.2) = true ∧ noLs (xs.map (·.2)) = true then some .own else none
  | i + 1, x :: xs => (splO i xs).map fun k => (nk x.1 x.2).join k
  | _, [] => none
def tAO (K : PySem.W.Frag) (CA : String → Addr) (W : WX) (i : Nat) (s : SA) : TA := fun σ H Q =>
  ∃ A H0 F G ρ, SR K A H0 F G ρ σ H ∧ Post K CA W σ H (s ρ) fun xs => ∃ k, splO i xs = some k ∧ ∀ vs H' f g, Same H H' → RepsI K H' i (xs.map (·.2)) vs f g → KOk A H0 F H H' k f → (g.Nodup ∧ ∀ a ∈ g, H a = none ∧ Mu (H' a) ∧ a ∉ f) → Q vs H'
section
variable {X : Cx} {CA : String → Addr} {W : WX} {e : Expr} {es : List Expr} {sa : SE} {s : SA}
theorem a_o0 (ha : PE X e (tE X.K CA W sa)) (hr : PA X es (tA X.K CA W s)) (hs : starEach (e :: es) X.env = (false, eval e X.env) :: starEach es X.env := by rfl) : PA X (e :: es) (tAO X.K CA W 0 (consA sa s)) := by
  refine ⟨fun pos pins s' σ H Q I ⟨A, H0, F, G, ρ, sr, h⟩ => (pa_cons ha hr hs).run pos pins s' σ H Q I ?_⟩
  refine ⟨A, H0, F, G, ρ, sr, h.bind fun ⟨k1, d1⟩ h1 => ?_⟩
  intro v1 H1 f1 s1 r1 o1
  refine ⟨A, H0, F, G, ρ, sr.same s1, (h1.later s1).bind fun xs h2 => ?_⟩
  intro vs H2 f2 s2 r2 o2
  obtain ⟨k, e1, h3⟩ := h2
  simp only [splO] at e1
  split at e1
  · rename_i hz
    cases e1
    have ho : KOk A H0 F H H1 .own f1 := by
      have := KOk.nk r1 o1
      rw [ownK_eq hz.1] at this
      exact this
    have e2 := Reps.noL r2 hz.2
    subst e2
    exact h3 (v1 :: vs) H2 [] f1 (s1.trans s2) ⟨r1.same s2, r2⟩ (KOk.nil _) ⟨ho.1, fun a ha => ⟨(ho.2 a ha).1, (ho.2 a ha).2.same s2, by simp⟩⟩
  · cases e1
theorem a_os {i : Nat} (ha : PE X e (tE X.K CA W sa)) (hr : PA X es (tAO X.K CA W i s)) (hs : starEach (e :: es) X.env = (false, eval e X.env) :: starEach es X.env := by rfl) : PA X (e :: es) (tAO X.K CA W (i + 1) (consA sa s)) := by
  refine ⟨fun pos pins s' σ H Q I ⟨A, H0, F, G, ρ, sr, h⟩ => (pa_cons ha hr hs).run pos pins s' σ H Q I ?_⟩
  refine ⟨A, H0, F, G, ρ, sr, h.bind fun ⟨k1, d1⟩ h1 => ?_⟩
  intro v1 H1 f1 s1 r1 o1
  refine ⟨A, H0, F, G, ρ, sr.same s1, (h1.later s1).bind fun xs h2 => ?_⟩
  obtain ⟨k, e1, h3⟩ := h2
  cases e2 : splO i xs with
  | none => simp [splO, e2] at e1
  | some k2 =>
    simp only [splO, e2, Option.map_some, Option.some.injEq] at e1
    subst e1
    refine ⟨k2, rfl, fun vs H2 f2 g s2 r2 o2 hg => ?_⟩
    refine h3 (v1 :: vs) H2 (f1 ++ f2) g (s1.trans s2) ⟨f1, f2, rfl, r1.same s2, r2⟩ (KOk.join sr s1 s2 r1.trk (KOk.nk r1 o1) o2) ⟨hg.1, fun a ha => ⟨s1.free (hg.2 a ha).1, (hg.2 a ha).2.1, fun z => ?_⟩⟩
    rcases List.mem_append.mp z with z | z
    · exact r1.trk a z (hg.2 a ha).1
    · exact (hg.2 a ha).2.2 z
end
/-- what such a def promises -/
def spO (K : PySem.W.Frag) (CA : String → Addr) (fn : Fn) (n i : Nat) : Sp := fun vs H Q E => ∃ A ds f g, ds.length = n ∧ RepsI K H i ds vs f g ∧ (∀ a ∈ f, A a) ∧ (g.Nodup ∧ ∀ a ∈ g, Mu (H a) ∧ a ∉ f) ∧
  match fn ds with
  | .ok (k, d) => ∀ v H' g', Same (hidH H g) H' → Rep K H' d v g' → RetK A (hidH H g) H' k g' → Q v H'
  | .ex c => ∀ H', Same (hidH H g) H' → WxOk K CA c E H'
  | .st => False
def callO (fn : Fn) (i : Nat) (s : SA) : SE := fun ρ => (s ρ).bind fun xs => match splO i xs with
  | some k => (fn (xs.map (·.2))).bind fun kd => .ok (retK kd.1 k, kd.2)
  | none => .st
structure FnGO (P : Program) (w : World) (K : PySem.W.Frag) (mg : Str → Option Value) (base : Heap) (CA : String → Addr) (fn : Fn) (i k : Nat) (x : String) : Prop where
  is : ∃ (f : Addr) (fd : FuncData) (ps : List Str), mg (Str.ofString x) = some (.ref f) ∧ FnOk P w K mg base (L2.CX P w) k f fd ps (spO K CA fn ps.length i) ∧ PySem.W.keepIn K (.ref f) = true ∧ Binds K fd ps [] ∧ ∀ as, fn as ≠ .st → as.length = ps.length
section
variable {X : Cx} {CA : String → Addr} {W : WX} {fn : Fn} {k i : Nat} {x : String} {p pos : Pos} {e : Expr} {es : List Expr} {s : SA}
theorem e_callO (tk : Takes X W) (hr : Room k X.A) (hf : FnGO X.prog X.w X.K X.mg X.base CA fn i k x) (ha : PA X (e :: es) (tAO X.K CA W i s)) (hg : Gl X (Str.ofString x) := by rfl) (hdb : (Str.ofString x == ("__debug__" : Str)) = false := by decide)
    (he : starEach (e :: es) X.env = (false, eval e X.env) :: starEach es X.env := by rfl) (hpl : (backTo pos (starEach es X.env)).any (·.1) = false := by rfl) : PE X (.Call (.Name (Str.ofString x) p) (e :: es) [] pos) (tE X.K CA W (callO fn i s)) := by
  obtain ⟨f, fd, ps, hm, Fn, hk, hb, hz⟩ := hf.is
  refine peI (pe_callSD Fn hr hg hm hk hb .nil (fun σ => passAt tk σ) ha hdb he hpl) fun σ H Q ⟨A, H0, F, G, ρ, sr, h⟩ => ?_
  refine ⟨A, H0, F, G, ρ, sr, Post.bind h fun xs h1 => ?_⟩
  cases e1 : splO i xs with
  | none => simp only [e1] at h1; exact h1.elim
  | some k1 =>
    simp only [e1] at h1
    refine ⟨k1, rfl, fun vs H1 f1 g s1 r o hg => ?_⟩
    show spO X.K CA fn ps.length i (vs ++ []) H1 Q (WE W σ)
    rw [List.append_nil]
    have hl : (xs.map (·.2)).length = ps.length := hz _ fun z => by rw [z] at h1; exact h1
    refine ⟨fun a => a ∈ f1, _, f1, g, hl, r, fun a ha => ha, ⟨hg.1, fun a ha => ⟨(hg.2 a ha).2.1, (hg.2 a ha).2.2⟩⟩, ?_⟩
    have sH : Same H (hidH H1 g) := fun a o e => by
      rw [hidH_out fun z => by rw [(hg.2 a z).1] at e; cases e]; exact s1 a o e
    cases hc : fn (xs.map (·.2)) with
    | st => rw [hc] at h1; exact h1.elim
    | ex c => rw [hc] at h1; exact fun H' s2 => h1 H' (sH.trans s2)
    | ok kd =>
      rw [hc] at h1
      obtain ⟨kk, d⟩ := kd
      intro v H' g' s2 r3 o3
      refine h1 v H' g' (sH.trans s2) r3 ?_
      have fr : ∀ {a : Addr}, hidH H1 g a = none → H a = none := fun {a} z => by
        rcases hidH_none z with z | z
        · exact (hg.2 a z).1
        · exact s1.free z
      cases kk with
      | own => exact ⟨o3.1, fun a ha => ⟨fr (o3.2 a ha).1, (o3.2 a ha).2⟩⟩
      | bor is =>
        intro a ha
        rcases o3 a ha with q | q
        · exact o.bok sr a q
        · have := fr q
          exact .inr ⟨.inr (sr.fr.free this), fun j hj => ((sr.own j).2 a hj).2.ne this⟩
end
/-! ### such defs -/
def slO : Nat → List D → List Sl
  | 0, d :: ds => mkS .own d :: ds.map (Sl.bo [])
  | i + 1, d :: ds => .bo [] d :: slO i ds
  | _, [] => []
theorem slO_len : ∀ (i : Nat) (ds : List D), (slO i ds).length = ds.length
  | 0, [] => rfl
  | 0, d :: ds => by simp [slO]
  | i + 1, [] => rfl
  | i + 1, d :: ds => by simp [slO, slO_len i ds]
theorem slO_at : ∀ (i : Nat) (ds : List D) (j : Nat), (slO i ds)[j]? = ds[j]?.map fun d => if j = i then mkS .own d else .bo [] d
  | 0, [], j => by simp [slO]
  | 0, d :: ds, 0 => by simp [slO]
  | 0, d :: ds, j + 1 => by simp [slO]
  | i + 1, [], j => by simp [slO]
  | i + 1, d :: ds, 0 => by simp [slO]
  | i + 1, d :: ds, j + 1 => by simp [slO, slO_at i ds j]
def runO (i m : Nat) (body : SS) (ds : List D) : R KD := match body (slO i ds ++ List.replicate (m - ds.length) .no) with
  | .rt k d => .ok (nk k d, d)
  | .nx _ => .ok (.own, .non)
  | .ex c _ => .ex c
  | _ => .st
def mkO (i n m : Nat) (body : SS) : Fn := fun ds => if ds.length = n then runO i m body ds else .st
theorem mkO_of {i n m : Nat} {body : SS} {ds : List D} (h : ds.length = n) : mkO i n m body ds = runO i m body ds := if_pos h
noncomputable def recO (i n m : Nat) (b : Fn → SS) : Nat → Fn
  | 0 => mkO i n m fun _ => .st
  | j + 1 => mkO i n m (b (recO i n m b j))
theorem mkO_len {i n m : Nat} {b : SS} {as : List D} (h : mkO i n m b as ≠ .st) : as.length = n := by
  unfold mkO at h
  split at h
  · assumption
  · exact absurd rfl h
theorem recO_len {i n m j : Nat} {b : Fn → SS} {as : List D} (h : recO i n m b j as ≠ .st) : as.length = n := by
  cases j with
  | zero => exact mkO_len h
  | succ j => exact mkO_len h
theorem mkS_ow {d d' : D} (h : mkS .own d = .ow d') : d' = d := by cases d <;> simp [mkS] at h <;> exact h.symm
theorem mkS_bo {d d' : D} {is : List Nat} (h : mkS .own d = .bo is d') : is = [] ∧ d' = d ∧ noL d = true := by cases d <;> simp [mkS] at h <;> (obtain ⟨rfl, rfl⟩ := h; exact ⟨rfl, rfl, by simp [noL]⟩)
theorem SR.initO {K : PySem.W.Frag} {A : Addr → Prop} {H : Hp} {i : Nat} {ds : List D} {vs : List V} {f g : List Addr} {N : List Str} (r : RepsI K H i ds vs f g) (hA : ∀ a ∈ f, A a) (hg : g.Nodup ∧ ∀ a ∈ g, Mu (H a) ∧ a ∉ f) (hN : ds.length ≤ N.length) (hi : i < ds.length) :
    ∃ F, SR K A (hidH H g) F [] (slO i ds ++ List.replicate (N.length - ds.length) Sl.no) (start N vs) H := by
  obtain ⟨di, hdi⟩ : ∃ d, ds[i]? = some d := ⟨_, List.getElem?_eq_getElem hi⟩
  have no : ∀ (j : Nat) (x : Sl), (slO i ds ++ List.replicate (N.length - ds.length) Sl.no)[j]? = some x → x = .no ∨ ∃ d, ds[j]? = some d ∧ x = if j = i then mkS .own d else .bo [] d := fun j x e => by
    by_cases hj : j < ds.length
    · rw [List.getElem?_append_left (by rw [slO_len]; exact hj), slO_at] at e
      cases hd : ds[j]? with
      | none => rw [hd] at e; cases e
      | some d => rw [hd] at e; cases e; exact .inr ⟨d, rfl, rfl⟩
    · rw [List.getElem?_append_right (by rw [slO_len]; omega), List.getElem?_replicate] at e
      split at e
      · cases e; exact .inl rfl
      · cases e
  have st : ∀ {j : Nat} {v : V}, vs[j]? = some v → (start N vs)[j]? = some (some v) := fun {j v} h1 => by
    have hj : j < vs.length := (List.getElem?_eq_some_iff.mp h1).1
    unfold L2.start
    rw [List.getElem?_append_left (by simpa using hj), List.getElem?_map, h1]
    rfl
  obtain ⟨vi, hvi, ri0⟩ := r.get hdi
  have ri : Rep K H di vi g := by
    rcases ri0 with ⟨_, q⟩ | ⟨q, _⟩
    · exact q
    · exact absurd rfl q
  have fr : ∀ {f' : List Addr}, (∀ b ∈ f', b ∈ f) → ∀ a ∈ f', Sh A (hidH H g) (fun j => if j = i then g else []) a := fun {f'} h a ha => ⟨.inl (hA a (h a ha)), fun j hj => by
    have hj : a ∈ (if j = i then g else []) := hj
    split at hj
    · exact (hg.2 a hj).2 (h a ha)
    · cases hj⟩
  refine ⟨fun j => if j = i then g else [], ?_, same_hid H g, fun j => ?_, fun j m a hj hm => ?_, fun j d e => ?_, fun j is d e => ?_, (fun p hp => nomatch hp), fun j hj hn => ?_, ⟨i + 1, fun j hj => if_neg (by omega)⟩⟩
  · unfold L2.start
    rw [List.length_append, List.length_append, List.length_map, slO_len, List.length_replicate, List.length_replicate, r.length]
  · show (if j = i then g else []).Nodup ∧ _
    by_cases e : j = i
    · simp only [e, if_true]; exact ⟨hg.1, fun a ha => ⟨hidH_in ha, (hg.2 a ha).1⟩⟩
    · simp only [e, if_false]; exact ⟨List.nodup_nil, fun a ha => nomatch ha⟩
  · have hj : a ∈ (if j = i then g else []) := hj
    have hm : a ∈ (if m = i then g else []) := hm
    split at hj
    · split at hm
      · omega
      · cases hm
    · cases hj
  · rcases no j _ e with q | ⟨d', hd, q⟩
    · cases q
    · by_cases z : j = i
      · rw [if_pos z] at q
        have := mkS_ow q.symm
        subst this
        subst z
        rw [hdi] at hd; cases hd
        refine ⟨vi, st hvi, ?_⟩
        show Rep K H _ vi (if j = j then g else [])
        rw [if_pos rfl]; exact ri
      · rw [if_neg z] at q; cases q
  · rcases no j _ e with q | ⟨d', hd, q⟩
    · cases q
    · by_cases z : j = i
      · rw [if_pos z] at q
        obtain ⟨e1, e2, e3⟩ := mkS_bo q.symm
        subst e1; subst e2; subst z
        rw [hdi] at hd; cases hd
        have := ri.noL e3
        refine ⟨vi, g, st hvi, ri, fun a ha => ?_⟩
        rw [this] at ha; cases ha
      · rw [if_neg z] at q
        cases q
        obtain ⟨v, h1, h2⟩ := r.get hd
        rcases h2 with ⟨h2, _⟩ | ⟨_, f', h3, h4⟩
        · exact absurd h2 z
        · exact ⟨v, f', st h1, h3, fun a ha => .inr (fr h4 a ha)⟩
  · have hn : (if j = i then g else []) ≠ [] := hn
    split at hn
    · rename_i z
      subst z
      refine ⟨di, ?_⟩
      rw [List.getElem?_append_left (by rw [slO_len]; exact hi), slO_at, hdi]
      simp only [Option.map_some, if_true, Option.some.injEq]
      cases q : mkS .own di with
      | ow d => rw [mkS_ow q]
      | bo is d =>
        obtain ⟨_, _, e3⟩ := mkS_bo q
        exact absurd (ri.noL e3) (by simpa using hn)
      | no => cases di <;> simp [mkS] at q
    · exact absurd rfl hn
section
variable {P : Program} {w : World} {K : PySem.W.Frag} {mg : Str → Option Value} {base : Heap} {CA : String → Addr}
theorem fn_okO {fn : Fn} {x qual : Str} {st : Stmt} {f : Addr} {fd : FuncData} {N ps : List Str} {i k : Nat} {body : SS} {dvs : List V} (Fu : FunD K x qual (defArgs st) (defBody st) (defScope st) dvs [] f fd) (S : FnScope N ps (defScope st))
    (hb : ∀ (cdv : Value) (A : Around) (outer : List PySem.Env) (s : Shared) (H : Hp) (E : XK), Room k (A.deeper (envOfC qual (defScope st) s.heap.objs.size f cdv)) →
      PSs (cxOf (L2.CX P w) P w K mg base N qual (defScope st) f cdv A outer s H E) (defBody st) (tS K CA (fun cls d _ H => E cls d H) body))
    (hx : ∀ ds, ds.length = ps.length → fn ds = runO i N.length body ds) (hi : i < ps.length)
    (hN : ps.length ≤ N.length) : FnOk P w K mg base (L2.CX P w) (k + 1) f fd ps (spO K CA fn ps.length i) := by
  refine Fu.ok S (fun vs H Q E ⟨A, ds, f, g, h1, h2, _⟩ => by rw [← h2.length]; exact h1) fun cdv Ar outer s H vs Q E hr ⟨A, ds, f, g, h1, h2, h3, h4, h5⟩ => ?_
  obtain ⟨F, sr⟩ := SR.initO (N := N) h2 h3 h4 (by rw [h1]; exact hN) (by omega)
  refine ⟨_, hb cdv Ar outer s H E hr, A, hidH H g, F, [], _, sr, ?_⟩
  rw [hx ds h1] at h5
  unfold runO at h5
  cases hbo : body (slO i ds ++ List.replicate (N.length - ds.length) .no) with
  | nx ρ =>
    simp only [hbo] at h5
    exact fun σ' H' F' sr => h5 .non H' [] sr.fr .non ⟨List.nodup_nil, fun a ha => nomatch ha⟩
  | rt k d =>
    simp only [hbo] at h5
    refine fun v H' f s r o => h5 v H' f s r ?_
    unfold nk
    split
    · rename_i hz; rw [Rep.noL r hz]; exact ⟨List.nodup_nil, fun a ha => nomatch ha⟩
    · exact o
  | bk ρ => simp only [hbo] at h5
  | ct ρ => simp only [hbo] at h5
  | ex c ρ => simp only [hbo] at h5; exact fun σ' H' F' sr => h5 H' sr.fr
  | st => simp only [hbo] at h5
  | ri ρ k d => simp only [hbo] at h5
theorem fn_gO {k i : Nat} {x : String} {fn : Fn} {ps : List Str} {f : Addr} {fd : FuncData} (hm : mg (Str.ofString x) = some (.ref f)) (h : FnOk P w K mg base (L2.CX P w) k f fd ps (spO K CA fn ps.length i))
    (kp : PySem.W.keepIn K (.ref f) = true) (bi : Binds K fd ps []) (hl : ∀ as, fn as ≠ .st → as.length = ps.length) : FnGO P w K mg base CA fn i k x := ⟨f, fd, ps, hm, h, kp, bi, hl⟩
end
end Cz
set_option maxHeartbeats 2000000
/-! Cz22: instances: their fields read and written. -/
namespace Cz
open PySem PySem.Spec PyProof.Rows L2
/-- the class named C has a field f (no class of it has the name) -/
structure ClsF (K : PySem.W.Frag) (C : String) (f : Str) : Prop where
  is : ∃ Ca, PySem.W.nsIn K mainGlobals (Str.ofString C) = some (some (.ref Ca)) ∧ Cls K Ca ∧ NoAttr K Ca f
theorem ClsF.at {K : PySem.W.Frag} {C : String} {f : Str} (h : ClsF K C f) {Ca : Addr} (e : PySem.W.nsIn K mainGlobals (Str.ofString C) = some (some (.ref Ca))) : Cls K Ca ∧ NoAttr K Ca f := by
  obtain ⟨Cb, h1, h2, h3⟩ := h.is
  rw [h1] at e; cases e
  exact ⟨h2, h3⟩
theorem lookup_valV (f : Str) : ∀ fs : List (Str × V), fs.lookup f = valV fs f
  | [] => rfl
  | (g, v) :: r => by
    by_cases h : g = f
    · subst h
      rw [List.lookup_cons_self, valV_pos (p := (g, v)) rfl]
    · have : (f == g) = false := by simpa using fun e : f = g => h e.symm
      rw [List.lookup_cons, this, valV_neg (p := (g, v)) h]
      exact lookup_valV f r
theorem putF_putK (f : Str) (y : V) : ∀ {fs : List (Str × V)}, (fs.map (·.1)).Nodup → putF f y fs = putK fs f y
  | [], _ => rfl
  | (g, v) :: r, n => by
    rw [List.map_cons, List.nodup_cons] at n
    by_cases h : g = f
    · subst h
      unfold putK
      rw [if_pos (by simp), List.map_cons, map_outV n.1]
      simp [putF]
    · rw [putK_cons_ne h, ← putF_putK f y n.2]
      simp [putF, h]
/-! ### e.f -/
def fldB (cs : List String) (f : Str) : KD → Option KD
  | (k, .obj _ C fs) => if cs.contains C = true then (valD fs f).map fun d => (k, d) else none
  | (_, .sob C fs) => if cs.contains C = true then (valD fs f).map fun d => (.own, d) else none
  | _ => none
def fldE (cs : List String) (f : Str) (a : SE) : SE := fun ρ => (a ρ).bind fun x => R.of (fldB cs f x)
/-- e.f of an instance, also of a sealed one -/
def tFldR (K : PySem.W.Frag) (ta : TE) (f : Str) : TE := fun σ H Q => ta σ H fun x H1 => ∃ a C dx fs v, x = .ref a ∧ Rd H1 a (.ins C dx fs) ∧ Cls K C ∧ NoAttr K C f ∧ fs.lookup f = some v ∧ Q v H1
section
variable {X : Cx} {e : Expr} {f : Str} {pos : Pos} {ta : TE} {P : Program} {w : World} {H : Hp} {h : Heap} {a C dx : Addr} {fs : List (Str × V)}
theorem ins_getR (hok : HOk P w H h) (e : Rd H a (.ins C dx fs)) : ∃ mA, ObjM h a dx C mA ∧ (∀ f, RelO (fs.lookup f) (mA f)) := by
  obtain ⟨d, z, ne, ob, mA, n, r, q⟩ := (show ObjOk P w H h a (.ins C dx fs) from e.ok hok)
  exact ⟨mA, ⟨ob, n, ne⟩, r⟩
theorem pe_fldR (he : PE X e ta) (hb : attributeBase e f X.env (eval e X.env) = eval e X.env := by rfl) : PE X (.Attribute e f pos) (tFldR X.K ta f) := by
  refine ⟨fun pins s σ H Q I h => ?_⟩
  refine attr_of hb (thn (he.run pins s σ H _ I h) fun u s1 ⟨x, H1, I1, rx, a, C, dx, fs, v, ex, ea, c, n, l, q⟩ => ?_)
  subst ex
  obtain rfl : u = Value.ref a := rx
  obtain ⟨mA, O, r⟩ := ins_getR I1.hok ea
  obtain ⟨u, hu, ru⟩ := RelO.some_of (v := v) (o := mA f) (by rw [← l]; exact r f)
  exact get_map I1.kIn O (c.get f) c.hd n hu (handed_of ru) ⟨v, H1, I1.tok _, ru, q⟩
end
theorem RepK.getD {K : PySem.W.Frag} {H : Hp} {κ : Type} [DecidableEq κ] : ∀ {kds : List (κ × D)} {kvs : List (κ × V)} {g : List Addr} {k : κ} {d : D}, RepK K H kds kvs g → valD kds k = some d → ∃ v g', valV kvs k = some v ∧ Rep K H d v g' ∧ (∀ b ∈ g', b ∈ g) ∧ (g.Nodup → g'.Nodup)
  | _, _, _, k, d, .cons (k := k0) (d := d0) (v := v0) (f := f1) (g := g1) r t, e => by
    by_cases h : k0 = k
    · have e : d0 = d := by simpa [valD, h] using e
      subst e; subst h
      exact ⟨v0, f1, valV_pos rfl, r, fun b hb => List.mem_append_left _ hb, fun n => (List.nodup_append.mp n).1⟩
    · obtain ⟨v, g', h1, h2, h3, h4⟩ := RepK.getD (k := k) (d := d) t (by simpa [valD, h] using e)
      exact ⟨v, g', by rw [valV_neg (p := (k0, v0)) h]; exact h1, h2, fun b hb => List.mem_append_right _ (h3 b hb), fun n => h4 (List.nodup_append.mp n).2.1⟩
section
variable {X : Cx} {CA : String → Addr} {W : WX} {pos pos' : Pos} {a e o : Expr} {sa se : SE} {sp : SPh} {f : Str} {cs : List String}
theorem e_fld (hc : ∀ C ∈ cs, ClsF X.K C f) (ha : PE X a (tE X.K CA W sa)) (hb : attributeBase a f X.env (eval a X.env) = eval a X.env := by rfl) : PE X (.Attribute a f pos) (tE X.K CA W (fldE cs f sa)) := by
  refine peI (pe_fldR ha hb) fun σ H Q ⟨A, H0, F, G, ρ, sr, h⟩ => ?_
  refine ⟨A, H0, F, G, ρ, sr, h.bind fun ⟨k, d⟩ h1 => ?_⟩
  intro v H1 g s r o
  obtain ⟨kd, e, q⟩ := h1.of
  cases d with
  | obj t C fs =>
    simp only [fldB] at e
    split at e
    · rename_i hC
      cases hv : valD fs f with
      | none => rw [hv] at e; cases e
      | some d =>
        rw [hv] at e
        simp only [Option.map_some, Option.some.injEq] at e
        subst e
        cases r with
        | @obj _ _ a Ca dx fvs _ f1 hl hCa nk rs htg =>
          obtain ⟨c1, c2⟩ := (hc C (by simpa using hC)).at hCa
          obtain ⟨v, g', h1, h2, h3, h4⟩ := rs.getD hv
          exact ⟨a, Ca, dx, fvs, v, rfl, .of hl, c1, c2, by rw [lookup_valV]; exact h1, q v H1 g' s h2 (o.sub (fun b hb => List.mem_cons_of_mem _ (h3 b hb)) fun n => h4 (List.nodup_cons.mp n).2)⟩
    · cases e
  | sob C fs =>
    simp only [fldB] at e
    split at e
    · rename_i hC
      cases hv : valD fs f with
      | none => rw [hv] at e; cases e
      | some d =>
        rw [hv] at e
        simp only [Option.map_some, Option.some.injEq] at e
        subst e
        cases r with
        | @sob _ a Ca dx ob fvs _ hl hCa nk rs =>
          obtain ⟨c1, c2⟩ := (hc C (by simpa using hC)).at hCa
          obtain ⟨v, g', h1, h2, h3, h4⟩ := rs.getD hv
          have : g' = [] := List.eq_nil_iff_forall_not_mem.mpr fun b hb => nomatch h3 b hb
          subst this
          exact ⟨a, Ca, dx, fvs, v, rfl, .inr ⟨ob, hl⟩, c1, c2, by rw [lookup_valV]; exact h1, q.atom s h2⟩
    · cases e
  | _ => cases e
/-! ### a field as a place -/
def fldP (cs : List String) (f : Str) (p : SPh) : SPh := fun ρ => (p ρ).bind fun x => match x.2.2 with
  | .obj _ C fs => if cs.contains C = true then (match valD fs f with
    | some d => .ok (x.1, x.2.1 ++ [.fld f], d)
    | none => .st) else .st
  | _ => .st
theorem p_fld (hc : ∀ C ∈ cs, ClsF X.K C f) (ha : PE X a (tP CA W X.K sp)) (hb : attributeBase a f X.env (eval a X.env) = eval a X.env := by rfl) : PE X (.Attribute a f pos) (tP CA W X.K (fldP cs f sp)) := by
  refine peI (pe_fldR ha hb) fun σ H Q ⟨A, H0, F, G, ρ, sr, h⟩ => ?_
  refine ⟨A, H0, F, G, ρ, sr, Post.bind h fun ⟨j, q, d0⟩ h1 => ?_⟩
  intro v1 H1 s1 at1
  obtain ⟨f0, r0, _, _, _⟩ := at1.open sr s1
  obtain ⟨dw, vj, e1, e2, e3, e4⟩ := at1
  cases d0 with
  | obj t C fs =>
    have h1 : Post X.K CA W σ H (if cs.contains C = true then (match valD fs f with
      | some d => (.ok (j, q ++ [.fld f], d) : R (Nat × List Ix × D))
      | none => .st) else .st) fun x => ∀ v H', Same H H' → PhAt ρ σ H' x v → Q v H' := h1
    by_cases hC : cs.contains C = true
    · rw [if_pos hC] at h1
      cases hv : valD fs f with
      | none => rw [hv] at h1; exact h1.elim
      | some d =>
        rw [hv] at h1
        cases r0 with
        | @obj _ _ a0 Ca dx fvs _ f1 hl hCa nk rs htg =>
          obtain ⟨c1, c2⟩ := (hc C (by simpa using hC)).at hCa
          obtain ⟨v, g', k1, _⟩ := rs.getD hv
          refine ⟨a0, Ca, dx, fvs, v, rfl, .of hl, c1, c2, by rw [lookup_valV]; exact k1, h1 v H1 s1 ⟨dw, vj, e1, e2, ?_, ?_⟩⟩
          · rw [getP_app e3]
            simp [getP, hv]
          · rw [navV_app e4]
            simp [navV, hl, k1]
    · rw [if_neg hC] at h1; exact h1.elim
  | _ => exact h1.elim
/-! ### p.f = e -/
def stfS (cs : List String) (p : SPh) (f : Str) (b : SE) : SS := fun ρ => (b ρ).out ρ fun x => (p ρ).out ρ fun y => match y.2.2 with
  | .obj t C fs => if cs.contains C = true ∧ okIn x.1 [x.2] = true ∧ fs.length < 1000 then (match putAt ρ y (.obj t C (putD fs f x.2)) with
    | some ρ' => .nx ρ'
    | none => .st) else .st
  | _ => .st
/-- a field's value put -/
theorem RepK.put {K : PySem.W.Frag} {H H' : Hp} {κ : Type} [DecidableEq κ] {fs : List (κ × D)} {fvs : List (κ × V)} {g : List Addr} (rs : RepK K H fs fvs g) (nk : (fs.map (·.1)).Nodup) {k : κ} {d : D} {v : V} {gx : List Addr}
    (ht : ∀ b o, H b = some o → IsT o → H' b = some o) (hk : ∀ b ∈ g, ∀ o, H b = some o → H' b = some o) (rx : Rep K H' d v gx) (hn : g.Nodup) (nx : gx.Nodup) (hd : ∀ b ∈ gx, b ∉ g) :
    ∃ g', RepK K H' (putD fs k d) (putK fvs k v) g' ∧ g'.Nodup ∧ ∀ b ∈ g', b ∈ g ∨ b ∈ gx := by
  cases hv : valD fs k with
  | some d0 =>
    obtain ⟨v0, p, g0, r, h1, h2, h3, h4⟩ := rs.at nk hv
    subst h2
    obtain ⟨n1, n2, n3⟩ := List.nodup_append.mp hn
    obtain ⟨n4, n5, n6⟩ := List.nodup_append.mp n1
    refine ⟨p ++ gx ++ r, h4 H' d gx v ht (fun b hb => hk b (by rcases hb with z | z <;> simp [z])) rx, ?_, fun b hb => ?_⟩
    · refine List.nodup_append.mpr ⟨List.nodup_append.mpr ⟨n4, nx, fun x hx y hy e => hd y hy (by simp [← e, hx])⟩, n2, fun x hx y hy e => ?_⟩
      rcases List.mem_append.mp hx with z | z
      · exact n3 x (List.mem_append_left _ z) y hy e
      · exact hd x z (by simp [e, hy])
    · rcases List.mem_append.mp hb with z | z
      · rcases List.mem_append.mp z with z | z
        · exact .inl (by simp [z])
        · exact .inr z
      · exact .inl (by simp [z])
  | none =>
    have hout : k ∉ fs.map (·.1) := fun z => by
      clear rs
      induction fs with
      | nil => cases z
      | cons p fs ih =>
        obtain ⟨k0, d0⟩ := p
        by_cases e : k0 = k
        · simp [valD, e] at hv
        · rw [List.map_cons, List.nodup_cons] at nk
          rcases List.mem_cons.mp z with z | z
          · exact e z.symm
          · exact ih nk.2 (by simpa [valD, e] using hv) z
    have houtV : k ∉ fvs.map (·.1) := by rw [rs.keys]; exact hout
    have e1 : putK fvs k v = fvs ++ [(k, v)] := by
      unfold putK
      rw [if_neg]
      intro z
      obtain ⟨p, hp, e⟩ := List.any_eq_true.mp z
      exact houtV (List.mem_map.mpr ⟨p, hp, of_decide_eq_true e⟩)
    rw [putD_out d hout, e1]
    have app : ∀ {κ : Type} {x : List (κ × D)} {y : List (κ × V)} {p : List Addr} {x' : List (κ × D)} {y' : List (κ × V)} {q : List Addr}, RepK K H' x y p → RepK K H' x' y' q → RepK K H' (x ++ x') (y ++ y') (p ++ q) := by
      intro κ x y p x' y' q h h'
      induction x generalizing y p with
      | nil => cases h; exact h'
      | cons z x ih =>
        cases h with
        | cons r t => rw [List.append_assoc]; exact .cons r (ih t)
    have one : RepK K H' [(k, d)] [(k, v)] gx := by
      have := RepK.cons (k := k) rx (RepK.nil (K := K) (H := H') (κ := κ))
      rw [List.append_nil] at this; exact this
    exact ⟨g ++ gx, app (rs.frame ht hk) one, List.nodup_append.mpr ⟨hn, nx, fun x hx y hy e => hd y hy (e ▸ hx)⟩, fun b hb => List.mem_append.mp hb⟩
theorem s_stf (hc : ∀ C ∈ cs, ClsF X.K C f) (he : PE X e (tE X.K CA W se)) (ho : PE X o (tP CA W X.K sp)) (hs : swapsWith e (some (.Attribute o f pos')) pos.line X.env = pure false := by rfl) : PS X (.Assign [.Attribute o f pos'] e pos) (tS X.K CA W (stfS cs sp f se)) := by
  refine psI (ps_fld ho he hs) fun De σ H ⟨A, H0, F, G, ρ, sr, h⟩ => ?_
  refine ⟨A, H0, F, G, ρ, sr, (lift h sr).imp fun x _ q vx H1 g s1 rx ox => ?_⟩
  refine ⟨A, H0, F, G, ρ, sr.same s1, (lift q (sr.same s1)).imp fun y _ q2 v H2 s2 at2 => ?_⟩
  obtain ⟨j, qq, d0⟩ := y
  have s12 := s1.trans s2
  cases d0 with
  | obj t C fs =>
    have q2 : OutOk X.K CA W A H0 G De (if cs.contains C = true ∧ okIn x.1 [x.2] = true ∧ fs.length < 1000 then (match putAt ρ (j, qq, .obj t C fs) (.obj t C (putD fs f x.2)) with
      | some ρ' => .nx ρ'
      | none => .st) else .st) := q2
    by_cases hh : cs.contains C = true ∧ okIn x.1 [x.2] = true ∧ fs.length < 1000
    · rw [if_pos hh] at q2
      obtain ⟨hC, hi, hz⟩ := hh
      obtain ⟨f0, r0, n0, m0, wr⟩ := at2.open sr s12
      cases r0 with
      | @obj _ _ a Ca dx fvs _ f1 hl hCa nk rs htg =>
        obtain ⟨c1, c2⟩ := (hc C (by simpa using hC)).at hCa
        have rxs : Reps X.K H2 [x.2] [vx] g := by
          have := Reps.cons (rx.same s2) (Reps.nil (K := X.K) (H := H2))
          rw [List.append_nil] at this; exact this
        obtain ⟨gn, gm⟩ := okIn_ok hi rxs (ox.wide (Same.refl _) s2)
        have nn := List.nodup_cons.mp n0
        have gd : ∀ b ∈ g, b ∉ a :: f1 := fun b hb z => (m0 b z).1 (gm b hb).1
        have nt : ∀ b ob, H2 b = some ob → IsT ob → (upd H2 a (.ins Ca dx (putK fvs f vx))) b = some ob := fun b ob e t => by
          have : b ≠ a := fun z => by subst z; rw [hl] at e; cases e; exact t.elim
          rw [upd_ne this]; exact e
        have kp : ∀ b ∈ f1, ∀ ob, H2 b = some ob → (upd H2 a (.ins Ca dx (putK fvs f vx))) b = some ob := fun b hb ob e => by
          have hne : b ≠ a := fun z => nn.1 (by rw [← z]; exact hb)
          rw [upd_ne hne]; exact e
        have rx' : Rep X.K (upd H2 a (.ins Ca dx (putK fvs f vx))) x.2 vx g := (rx.same s2).frame nt fun b hb ob e => by
          have hne : b ≠ a := fun z => gd b hb (by rw [z]; simp)
          rw [upd_ne hne]; exact e
        obtain ⟨g', k1, k2, k3⟩ := rs.put nk (k := f) nt kp rx' nn.2 gn fun b hb z => gd b hb (List.mem_cons_of_mem _ z)
        have ga : a ∉ g' := fun z => by
          rcases k3 a z with w | w
          · exact nn.1 w
          · exact gd a w (by simp)
        obtain ⟨ρ', F', e1, sr'⟩ := wr a (.ins Ca dx (putK fvs f vx)) (.obj t C (putD fs f x.2)) (a :: g') rfl (by simp) trivial (.obj upd_same hCa (putD_nodup nk) k1 htg) (List.nodup_cons.mpr ⟨ga, k2⟩) (fun b hb => by
          rcases List.mem_cons.mp hb with z | z
          · subst z; exact .inl (by simp)
          · rcases k3 b z with w | w
            · exact .inl (List.mem_cons_of_mem _ w)
            · exact .inr (gm b w).1) (fun b hb => by
          by_cases z : b = a
          · subst z; exact ⟨by rw [upd_same]; trivial⟩
          · rw [upd_ne z]
            rcases List.mem_cons.mp hb with w | w
            · exact absurd w z
            · rcases k3 b w with w | w
              · exact (m0 b (List.mem_cons_of_mem _ w)).2
              · exact (gm b w).2)
        rw [e1] at q2
        have nkv : (fvs.map (·.1)).Nodup := by rw [rs.keys]; exact nk
        refine ⟨a, Ca, dx, fvs, rfl, hl, c1, c2, by rw [← rs.length]; exact hz, ?_⟩
        rw [putF_putK f vx nkv]
        exact q2 σ _ F' sr'
    · rw [if_neg hh] at q2; exact q2.elim
  | _ => exact q2.elim
end
end Cz
set_option maxHeartbeats 2000000
/-! Cz23: methods that change their object; new instances; methods that only read. -/
namespace Cz
open PySem PySem.Spec PyProof.Rows L2
inductive RG where
  | ok (fs : List (Str × D)) (d : D) | ex (c : Ec) (fs : List (Str × D)) | st
/-- by the object's mark, its fields, the other arguments -/
abbrev GFn := Nat → List (Str × D) → List D → RG
def selfG (t : Nat) (C : String) (ρ : Env) : Option (List (Str × D)) := match (ρ[0]? : Option Sl) with
  | some (.ow (.obj t' C' fs')) => if t' = t ∧ C' = C then some fs' else none
  | _ => none
def finG (t : Nat) (C : String) (ρ : Env) (d : D) : RG := match selfG t C ρ with
  | some fs' => .ok fs' d
  | none => .st
def exG (t : Nat) (C : String) (ρ : Env) (c : Ec) : RG := match selfG t C ρ with
  | some fs' => .ex c fs'
  | none => .st
def Out.finG (o : Out) (t : Nat) (C : String) : RG := match o with
  | .nx ρ => Cz.finG t C ρ .non
  | .ri ρ k d => if ownK k = true then Cz.finG t C ρ d else .st
  | .ex c ρ => exG t C ρ c
  | _ => .st
def runG (C : String) (m : Nat) (body : SS) : GFn := fun t fs ds => (body (.ow (.obj t C fs) :: (ds.map (Sl.bo []) ++ List.replicate (m - (ds.length + 1)) .no))).finG t C
def mkG (C : String) (n m : Nat) (body : SS) : GFn := fun t fs ds => if ds.length + 1 = n then runG C m body t fs ds else .st
theorem mkG_of {C : String} {n m : Nat} {body : SS} {t : Nat} {fs : List (Str × D)} {ds : List D} (h : ds.length + 1 = n) : mkG C n m body t fs ds = runG C m body t fs ds := if_pos h
theorem mkG_len {C : String} {n m : Nat} {b : SS} {t : Nat} {fs : List (Str × D)} {ds : List D} (h : mkG C n m b t fs ds ≠ .st) : ds.length + 1 = n := by
  unfold mkG at h
  split at h
  · assumption
  · exact absurd rfl h
/-- what such a def promises -/
def spG (K : PySem.W.Frag) (CA : String → Addr) (C : String) (g : GFn) (n : Nat) : Sp := fun vs H Q E => ∃ (a0 : Addr) (fs0 : List (Str × D)) (ds : List D) (f f0 : List Addr), ds.length + 1 = n ∧ RepsI K H 0 (.obj (a0 + 1) C fs0 :: ds) vs f f0 ∧ vs.head? = some (.ref a0) ∧ f0.Nodup ∧ (∀ a ∈ f0, Mu (H a) ∧ a ∉ f) ∧
  match g (a0 + 1) fs0 ds with
  | .ok fs' d => ∀ v H' f0' g', Same (hidH H f0) H' → Rep K H' (.obj (a0 + 1) C fs') (.ref a0) f0' → Rep K H' d v g' → (f0' ++ g').Nodup → (∀ a ∈ f0' ++ g', (a ∈ f0 ∨ H a = none) ∧ Mu (H' a)) → Q v H'
  | .ex c fs' => ∀ H' f0', Same (hidH H f0) H' → Rep K H' (.obj (a0 + 1) C fs') (.ref a0) f0' → f0'.Nodup → (∀ a ∈ f0', (a ∈ f0 ∨ H a = none) ∧ Mu (H' a)) → WxOk K CA c E H'
  | .st => False
section
variable {P : Program} {w : World} {K : PySem.W.Frag} {mg : Str → Option Value} {base : Heap} {CA : String → Addr}
theorem self_rep {A : Addr → Prop} {H0 H : Hp} {F : Nat → List Addr} {G : List (D × V)} {ρ : Env} {σ : L2.St} {a0 : Addr} {C : String} {fs' : List (Str × D)} (sr : SR K A H0 F G ρ σ H) (h : selfG (a0 + 1) C ρ = some fs') : Rep K H (.obj (a0 + 1) C fs') (.ref a0) (F 0) := by
  unfold selfG at h
  split at h
  · rename_i t' C' fs2 e
    split at h
    · rename_i hz
      obtain ⟨rfl, rfl⟩ := hz
      cases h
      obtain ⟨v, _, r⟩ := sr.slo 0 _ e
      obtain ⟨f, hf⟩ : ∃ f, F 0 = f := ⟨_, rfl⟩
      rw [hf] at r ⊢
      cases r with
      | obj q c n r z =>
        rcases z with z | z
        · omega
        · have : _ = a0 := (Nat.succ.inj z).symm
          subst this
          exact .obj q c n r (.inr rfl)
    · cases h
  · cases h
theorem fn_okG {C : String} {g : GFn} {x qual : Str} {st : Stmt} {f : Addr} {fd : FuncData} {N ps : List Str} {k : Nat} {body : SS} {dvs : List V} (Fu : FunD K x qual (defArgs st) (defBody st) (defScope st) dvs [] f fd) (S : FnScope N ps (defScope st))
    (hb : ∀ (cdv : Value) (A : Around) (outer : List PySem.Env) (s : Shared) (H : Hp) (E : XK), Room k (A.deeper (envOfC qual (defScope st) s.heap.objs.size f cdv)) →
      PSs (cxOf (L2.CX P w) P w K mg base N qual (defScope st) f cdv A outer s H E) (defBody st) (tS K CA (fun cls d _ H => E cls d H) body))
    (hx : ∀ t fs ds, ds.length + 1 = ps.length → g t fs ds = runG C N.length body t fs ds)
    (hN : ps.length ≤ N.length) : FnOk P w K mg base (L2.CX P w) (k + 1) f fd ps (spG K CA C g ps.length) := by
  refine Fu.ok S (fun vs H Q E ⟨a0, fs0, ds, f, f0, h1, h2, _⟩ => by rw [← h2.length]; simpa using h1) fun cdv Ar outer s H vs Q E hr ⟨a0, fs0, ds, f, f0, h1, h2, h0, h3, h4, h5⟩ => ?_
  obtain ⟨F, sr⟩ := SR.initO (N := N) (A := fun a => a ∈ f) h2 (fun a ha => ha) ⟨h3, h4⟩ (by rw [List.length_cons, h1]; exact hN) (by simp)
  refine ⟨_, hb cdv Ar outer s H E hr, fun a => a ∈ f, hidH H f0, F, [], _, sr, ?_⟩
  have e0 : slO 0 (D.obj (a0 + 1) C fs0 :: ds) ++ List.replicate (N.length - (D.obj (a0 + 1) C fs0 :: ds).length) Sl.no = .ow (.obj (a0 + 1) C fs0) :: (ds.map (Sl.bo []) ++ List.replicate (N.length - (ds.length + 1)) .no) := rfl
  rw [e0]
  rw [hx (a0 + 1) fs0 ds h1] at h5
  unfold runG at h5
  have fr : ∀ {a : Addr}, hidH H f0 a = none → a ∈ f0 ∨ H a = none := fun {a} z => hidH_none z
  cases hbo : body (.ow (.obj (a0 + 1) C fs0) :: (ds.map (Sl.bo []) ++ List.replicate (N.length - (ds.length + 1)) .no)) with
  | nx ρ =>
    rw [hbo] at h5
    simp only [Out.finG, Cz.finG] at h5
    cases hs : selfG (a0 + 1) C ρ with
    | none => rw [hs] at h5; exact h5.elim
    | some fs' =>
      rw [hs] at h5
      refine fun σ' H' F' sr' => h5 .non H' (F' 0) [] sr'.fr (self_rep sr' hs) .non (by rw [List.append_nil]; exact (sr'.own 0).1) fun a ha => ?_
      rw [List.append_nil] at ha
      exact ⟨fr ((sr'.own 0).2 a ha).1, ((sr'.own 0).2 a ha).2⟩
  | ri ρ k d =>
    rw [hbo] at h5
    simp only [Out.finG] at h5
    by_cases hk : ownK k = true
    · rw [if_pos hk] at h5
      have := ownK_eq hk
      subst this
      simp only [Cz.finG] at h5
      cases hs : selfG (a0 + 1) C ρ with
      | none => rw [hs] at h5; exact h5.elim
      | some fs' =>
        rw [hs] at h5
        refine fun v σ Hx H' F' g' sr' s' r' o' => h5 v H' (F' 0) g' (sr'.fr.trans s') ((self_rep sr' hs).same s') r' ?_ fun a ha => ?_
        · exact List.nodup_append.mpr ⟨(sr'.own 0).1, o'.1, fun a ha b hb e => by subst e; exact ((sr'.own 0).2 a ha).2.ne (o'.2 a hb).1⟩
        · rcases List.mem_append.mp ha with z | z
          · exact ⟨fr ((sr'.own 0).2 a z).1, ((sr'.own 0).2 a z).2.same s'⟩
          · exact ⟨fr (sr'.fr.free (o'.2 a z).1), (o'.2 a z).2⟩
    · rw [if_neg hk] at h5; exact h5.elim
  | ex c ρ =>
    rw [hbo] at h5
    simp only [Out.finG, Cz.exG] at h5
    cases hs : selfG (a0 + 1) C ρ with
    | none => rw [hs] at h5; exact h5.elim
    | some fs' =>
      rw [hs] at h5
      exact fun σ' H' F' sr' => h5 H' (F' 0) sr'.fr (self_rep sr' hs) (sr'.own 0).1 fun a ha => ⟨fr ((sr'.own 0).2 a ha).1, ((sr'.own 0).2 a ha).2⟩
  | rt k d => rw [hbo] at h5; exact h5.elim
  | bk ρ => rw [hbo] at h5; exact h5.elim
  | ct ρ => rw [hbo] at h5; exact h5.elim
  | st => rw [hbo] at h5; exact h5.elim
end
/-! ### for all marks -/
open Classical in
noncomputable def allG (f : Nat → RG) : RG := if h : ∃ r, ∀ t, f t = r then h.choose else .st
theorem allG_const {f : Nat → RG} {r : RG} (h : ∀ t, f t = r) : allG f = r := by
  unfold allG
  rw [dif_pos ⟨r, h⟩]
  have : ∃ r, ∀ t, f t = r := ⟨r, h⟩
  exact (this.choose_spec 0).symm.trans (h 0)
theorem allG_at {f : Nat → RG} (h : allG f ≠ .st) (t : Nat) : f t = allG f := by
  unfold allG at h ⊢
  split
  · rename_i hz; exact hz.choose_spec t
  · rename_i hz; rw [dif_neg hz] at h; exact absurd rfl h
/-! ### a change of all that a slot owns -/
section
variable {K : PySem.W.Frag} {A : Addr → Prop} {H0 Hb H H' : Hp} {F : Nat → List Addr} {G : List (D × V)} {ρ : Env} {σ : L2.St}
theorem SR.mutG {j : Nat} {d d' : D} {v : V} {f' : List Addr} (sr : SR K A H0 F G ρ σ Hb) (fr : ∀ a o, Hb a = some o → a ∉ F j → H a = some o) (hs : ρ[j]? = some (.ow d)) (hv : σ[j]? = some (some v))
    (r : Rep K H d' v f') (nf : f'.Nodup) (hf : ∀ b ∈ f', b ∈ F j ∨ Hb b = none) (hmu : ∀ b ∈ f', Mu (H b)) : SR K A H0 (updF F j f') G ((inv j ρ).set j (.ow d')) σ H := by
  have hj : j < ρ.length := (List.getElem?_eq_some_iff.mp hs).1
  have nt : ∀ b ob, Hb b = some ob → IsT ob → H b = some ob := fun b ob e t => by
    refine fr b ob e fun z => ?_
    have := ((sr.own j).2 b z).2.m
    rw [e] at this
    cases ob <;> first | exact t.elim | exact this.elim
  have kp : ∀ {f : List Addr}, (∀ b ∈ f, b ∉ F j) → ∀ b ∈ f, ∀ ob, Hb b = some ob → H b = some ob := fun {f} hf b hb ob e => fr b ob e (hf b hb)
  have mu : ∀ {b : Addr}, b ∉ F j → Mu (Hb b) → Mu (H b) := fun {b} h m => by
    cases e : Hb b with
    | none => exact absurd e m.ne
    | some o => rw [fr b o e h]; rw [e] at m; exact m
  have sh : ∀ {b : Addr}, Hb b ≠ none → Sh A H0 F b → b ∉ F j ∧ Sh A H0 (updF F j f') b := fun {b} hb h => by
    refine ⟨h.2 j, h.1, fun m hm' => ?_⟩
    by_cases e : m = j
    · subst e
      rw [updF_same] at hm'
      exact (hf b hm').elim (h.2 m) hb
    · rw [updF_ne e] at hm'; exact h.2 m hm'
  refine ⟨by rw [List.length_set, inv_len]; exact sr.len, fun b ob e => ?_, fun i => ?_, fun i m b hi hm' => ?_, fun i d2 e => ?_, fun i is d2 e => ?_, fun p hp => ?_, fun i hi hn => ?_, fin_upd sr.fin⟩
  · exact fr b ob (sr.fr b ob e) fun z => by rw [((sr.own j).2 b z).1] at e; cases e
  · by_cases e : i = j
    · subst e
      rw [updF_same]
      exact ⟨nf, fun b hb => ⟨(hf b hb).elim (fun q => ((sr.own i).2 b q).1) fun q => sr.fr.free q, hmu b hb⟩⟩
    · rw [updF_ne e]
      exact ⟨(sr.own i).1, fun b hb => ⟨((sr.own i).2 b hb).1, mu (fun z => e (sr.dis i j b hb z)) ((sr.own i).2 b hb).2⟩⟩
  · by_cases e : i = j
    · by_cases e' : m = j
      · rw [e, e']
      · rw [e, updF_same] at hi; rw [updF_ne e'] at hm'
        rcases hf b hi with q | q
        · exact e.trans (sr.dis j m b q hm')
        · exact absurd q ((sr.own m).2 b hm').2.ne
    · by_cases e' : m = j
      · rw [e', updF_same] at hm'; rw [updF_ne e] at hi
        rcases hf b hm' with q | q
        · exact (sr.dis i j b hi q).trans e'.symm
        · exact absurd q ((sr.own i).2 b hi).2.ne
      · rw [updF_ne e] at hi; rw [updF_ne e'] at hm'; exact sr.dis i m b hi hm'
  · by_cases h : j = i
    · subst h
      rw [List.getElem?_set_self (by rw [inv_len]; exact hj)] at e
      cases e
      exact ⟨v, hv, by rw [updF_same]; exact r⟩
    · rw [List.getElem?_set_ne h] at e
      obtain ⟨v2, h1, h2⟩ := sr.slo i d2 (inv_ow.mp e)
      rw [updF_ne (Ne.symm h)]
      exact ⟨v2, h1, h2.frame nt (kp fun b hb z => h (sr.dis j i b z hb))⟩
  · by_cases h : j = i
    · subst h
      rw [List.getElem?_set_self (by rw [inv_len]; exact hj)] at e
      cases e
    · rw [List.getElem?_set_ne h] at e
      obtain ⟨e1, hji⟩ := inv_bo e
      obtain ⟨v2, g, h1, h2, h3⟩ := sr.slb i is d2 e1
      have key : ∀ b ∈ g, b ∉ F j ∧ ((∃ m ∈ is, b ∈ updF F j f' m) ∨ Sh A H0 (updF F j f') b) := fun b hb => by
        rcases h3 b hb with ⟨m, hm', q⟩ | q
        · have hmj : m ≠ j := fun z => hji (z ▸ hm')
          exact ⟨fun z => hmj (sr.dis m j b q z), .inl ⟨m, hm', by rw [updF_ne hmj]; exact q⟩⟩
        · obtain ⟨q1, q2⟩ := sh (h2.trk b hb) q
          exact ⟨q1, .inr q2⟩
      exact ⟨v2, g, h1, h2.frame nt (kp fun b z => (key b z).1), fun b hb => (key b hb).2⟩
  · obtain ⟨g, h1, h2⟩ := sr.gho p hp
    exact ⟨g, h1.frame nt (kp fun b z => (sh (h1.trk b z) (h2 b z)).1), fun b hb => (sh (h1.trk b hb) (h2 b hb)).2⟩
  · rw [List.length_set, inv_len] at hi
    by_cases h : j = i
    · subst h; exact ⟨d', by rw [List.getElem?_set_self (by rw [inv_len]; exact hi)]⟩
    · rw [updF_ne (Ne.symm h)] at hn
      obtain ⟨d2, e⟩ := sr.emp i hi hn
      exact ⟨d2, by rw [List.getElem?_set_ne h]; exact inv_ow.mpr e⟩
/-- a change at a place, whatever its nodes are then -/
theorem PhAt.openG {x : Nat × List Ix × D} {v : V} (sr : SR K A H0 F G ρ σ Hb) (s : Same Hb H) (h : PhAt ρ σ H x v) : ∃ f0, Rep K H x.2.2 v f0 ∧ f0.Nodup ∧ (∀ b ∈ f0, b ∈ F x.1 ∧ Hb b ≠ none ∧ Mu (H b)) ∧
    ∀ (H' : Hp) (d0' : D) (f0' : List Addr), (∀ b o, H b = some o → b ∉ f0 → H' b = some o) → Rep K H' d0' v f0' → f0'.Nodup → (∀ b ∈ f0', b ∈ f0 ∨ Hb b = none) → (∀ b ∈ f0', Mu (H' b)) →
      ∃ ρ' F', putAt ρ x d0' = some ρ' ∧ SR K A H0 F' G ρ' σ H' ∧ Eff ρ.length F F' Hb H' := by
  obtain ⟨d, vj, h1, h2, h3, h4⟩ := h
  have hx : x.1 < ρ.length := (List.getElem?_eq_some_iff.mp h1).1
  obtain ⟨vj', h5, rjb⟩ := sr.slo _ d h1
  rw [h2] at h5; cases h5
  have rj := rjb.same s
  have own := sr.own x.1
  obtain ⟨v0, f0, k1, k2, k3, k4, k5⟩ := nav_rep rj h3
  rw [h4] at k1; cases k1
  refine ⟨f0, k2, k4 own.1, fun b hb => ⟨k3 b hb, (own.2 b (k3 b hb)).2.ne, (own.2 b (k3 b hb)).2.same s⟩, fun H' d0' f0' fr r nf hf hmu => ?_⟩
  have hnt : ∀ b o, H b = some o → IsT o → H' b = some o := fun b o e t => fr b o e fun z => by
    have := ((own.2 b (k3 b z)).2.same s).m
    rw [e] at this
    cases o <;> first | exact t.elim | exact this.elim
  obtain ⟨d', f', e1, e2, e3, e4⟩ := k5 own.1 H' d0' f0' hnt (fun b hb hn ob e => fr b ob e hn) r nf (fun b hb => (hf b hb).imp id fun z w => (own.2 b w).2.ne z)
  refine ⟨(inv x.1 ρ).set x.1 (.ow d'), updF F x.1 f', by unfold putAt; rw [h1]; simp only [slD, Option.getD_some]; rw [e1]; rfl, ?_, fun j hj => updF_ne (by omega), fun b ob eb hb => ?_, fun j hj b hb => ?_⟩
  · refine sr.mutG (fun b ob eb hb => fr b ob (s b ob eb) fun z => hb (k3 b z)) h1 h2 e2 e3 (fun b hb => ?_) fun b hb => ?_
    · rcases e4 b hb with z | z
      · exact (hf b z).imp (k3 b) id
      · exact .inl z.1
    · rcases e4 b hb with z | z
      · exact hmu b z
      · have m := (own.2 b z.1).2
        cases e : Hb b with
        | none => exact absurd e m.ne
        | some o => rw [fr b o (s b o e) z.2]; rw [e] at m; exact m
  · exact fr b ob (s _ _ eb) fun z => hb x.1 hx (k3 b z)
  · by_cases e : j = x.1
    · subst e
      rw [updF_same] at hb
      rcases e4 b hb with z | z
      · exact (hf b z).imp (fun w => ⟨x.1, hx, k3 b w⟩) id
      · exact .inl ⟨x.1, hx, z.1⟩
    · rw [updF_ne e] at hb; exact .inl ⟨j, hj, hb⟩
end
end Cz
set_option maxHeartbeats 2000000
/-! Cz24: calls of methods; new instances. -/
namespace Cz
open PySem PySem.Spec PyProof.Rows L2
def tMethSD (C : Addr) (m : Str) (sp : Sp) (E : L2.St → XK) (ta : TE) (t : TA) : TE := fun σ H Q => ta σ H fun x H1 => ∃ a dx fs, x = .ref a ∧ Rd H1 a (.ins C dx fs) ∧ fs.lookup m = none ∧ t σ H1 fun vs H2 => sp (x :: vs) H2 Q (E σ)
def tMakeSD (C : Addr) (sp : Sp) (E : L2.St → XK) (t : TA) : TE := fun σ H Q => t σ H fun vs H1 => ∀ x dx, H1 x = none → H1 dx = none → dx ≠ x →
  sp (.ref x :: vs) (upd (upd H1 dx (.own x)) x (.ins C dx [])) (fun v H2 => v = .non ∧ Q (.ref x) H2) (E σ)
section
variable {X : Cx} {CXx : CXT} {k : Nat} {f C : Addr} {fd : FuncData} {ps : List Str} {sp : Sp} {E : L2.St → XK} {x m : Str} {p pos apos : Pos} {e o : Expr} {es : List Expr} {ta : TE} {t : TA}
theorem getmeth_okR {pins : List (Addr × Obj)} {σ : L2.St} {H : Hp} {s : Shared} {A : Around} {E : Value → Shared → Prop} {a dx : Addr} {fs : List (Str × V)} {m : Str} {g : Addr} {pl : Sem Bool} {Q : Value × List Value → Shared → Prop} (I : Inv X pins σ H s) (e : Rd H a (.ins C dx fs)) (c : Cls X.K C) (k : Meth X.K C m g) (l : fs.lookup m = none)
    (h : Q (.ref g, [.ref a]) s) : wpAny (model X.prog X.w) A (getMethod (.ref a) m pl) Q E s := by
  obtain ⟨mA, O, r⟩ := ins_getR I.hok e
  have hn : mA m = none := RelO.none_of (by rw [← l]; exact r m)
  exact get_meth I.kIn O (c.get m) k.at_ k.fn hn h
theorem pe_methSD {pl : Sem Bool} (he : PE X o ta) (c : Cls X.K C) (hm : Meth X.K C m f) (F : FnOk X.prog X.w X.K X.mg X.base CXx k f fd ps sp) (hr : Room k X.A) (hb : Binds X.K fd ps []) (hx : ∀ σ, PassesAt CXx X σ (E σ)) (ha : PA X (e :: es) t)
    (hst : starEach (e :: es) X.env = (false, eval e X.env) :: starEach es X.env := by rfl) (hpl : (backTo pos (starEach es X.env)).any (·.1) = false := by rfl)
    (ht : eval (.Call (.Attribute o m apos) (e :: es) [] pos) X.env = (do
      let ov ← eval o X.env
      standAt apos.atName
      let (f, first) ← holding [ov] (getMethod ov m pl)
      callWith pos f first (backTo pos (starEach (e :: es) X.env)) (backToKw pos (keywordEach [] X.env))) := by rfl) :
    PE X (.Call (.Attribute o m apos) (e :: es) [] pos) (tMethSD C m sp E ta t) := by
  refine ⟨fun pins s σ H Q I h => ?_⟩
  refine PySem.W.methodCall_KW (pl := pl) (thn (he.run pins s σ H _ I h) fun u s1 ⟨x, H1, I1, rx, a, dx, fs, ex, ea, l, q⟩ => ?_) ht
  subst ex
  obtain rfl : u = Value.ref a := rx
  refine getmeth_okR I1 ea c hm l ?_
  refine PySem.W.callWith_K (first := [.ref a]) (h₀ := X.base) I.ok.mod.kin hm.kp (thn (ha.run pos pins s1 σ H1 _ I1 q) fun us s2 ⟨vs, H2, I2, r, q2⟩ => ⟨I2.kIn, ?_⟩) hst hpl
  exact run_fnSD (us := .ref a :: us) (vs := .ref a :: vs) (dvs := []) F hr hb .nil (hx σ) I2 (.cons rfl r) (by rw [List.append_nil]; exact q2)
theorem pe_methSD0 {pl : Sem Bool} (he : PE X o ta) (c : Cls X.K C) (hm : Meth X.K C m f) (F : FnOk X.prog X.w X.K X.mg X.base CXx k f fd ps sp) (hr : Room k X.A) (hb : Binds X.K fd ps []) (hx : ∀ σ, PassesAt CXx X σ (E σ))
    (ht : eval (.Call (.Attribute o m apos) [] [] pos) X.env = (do
      let ov ← eval o X.env
      standAt apos.atName
      let (f, first) ← holding [ov] (getMethod ov m pl)
      callWith pos f first (backTo pos (starEach [] X.env)) (backToKw pos (keywordEach [] X.env))) := by rfl) :
    PE X (.Call (.Attribute o m apos) [] [] pos) (tMethSD C m sp E ta tNil) := by
  refine ⟨fun pins s σ H Q I h => ?_⟩
  refine PySem.W.methodCall_KW (pl := pl) (thn (he.run pins s σ H _ I h) fun u s1 ⟨x, H1, I1, rx, a, dx, fs, ex, ea, l, q⟩ => ?_) ht
  subst ex
  obtain rfl : u = Value.ref a := rx
  refine getmeth_okR I1 ea c hm l ?_
  exact PySem.W.callWith_K0 (first := [.ref a]) I1.kIn hm.kp (run_fnSD (us := [.ref a]) (vs := [.ref a]) (dvs := []) F hr hb .nil (hx σ) I1 (.cons rfl .nil) q)
theorem run_makeSD {pins : List (Addr × Obj)} {σ : L2.St} {H : Hp} {s : Shared} {Q : VK} {us : List Value} {vs : List V} (M : Mk X.K C f) (F : FnOk X.prog X.w X.K X.mg X.base CXx k f fd ps sp) (hr : Room (k + 1) X.A) (hb : Binds X.K fd ps [])
    (hx : PassesAt CXx X σ (E σ)) (I : Inv X pins σ H s) (r : Vals vs us)
    (h : ∀ x dx, H x = none → H dx = none → dx ≠ x → sp (.ref x :: vs) (upd (upd H dx (.own x)) x (.ins C dx [])) (fun v H2 => v = .non ∧ Q (.ref x) H2) (E σ)) :
    wpAny (model X.prog X.w) X.A (call (.ref C) us) (EP X pins σ Q) X.xe s := by
  have hq := h (s.heap.objs.size + 1) s.heap.objs.size (I.hok.fresh (Nat.le_succ _)) (I.hok.fresh (Nat.le_refl _)) (Nat.ne_of_lt (Nat.lt_succ_self _))
  have I2 := Inv.made (C := C) I
  have r2 : Vals (V.ref (s.heap.objs.size + 1) :: vs) (Value.ref (s.heap.objs.size + 1) :: us) := .cons rfl r
  have hl : (Value.ref (s.heap.objs.size + 1) :: us ++ []).length = ps.length := by
    have e := r2.length
    rw [F.len _ _ _ _ hq] at e
    rw [List.append_nil]; exact e.symm
  refine wpAny_call (make_map (f := f) I.kIn M.makes M.init (beq_iff_eq.mp M.fn) (codeAny_mono (F.run _ X.stack _ _ ⟨Value.ref (s.heap.objs.size + 1) :: us, []⟩ (Value.ref (s.heap.objs.size + 1) :: us) _ _ (E σ) (hr.make C us [])
    (I2.env0.make C us []) (by have := hb _ (Value.ref (s.heap.objs.size + 1) :: us) I2.kIn hl; rw [List.append_nil] at this; exact this) r2 hq) fun r s' hq' => ?_))
  cases r with
  | error e => exact hx pins _ _ e s' I2 hq'
  | ok fl =>
    cases fl with
    | ret u =>
      obtain ⟨v, H', I3, rv, ev, q3⟩ := I2.after hq'
      subst ev
      exact ⟨rv, ⟨V.ref (s.heap.objs.size + 1), H', I3, rfl, q3⟩⟩
    | next => exact False.elim hq'
    | brk => exact False.elim hq'
    | cont => exact False.elim hq'
theorem pe_makeSD (M : Mk X.K C f) (F : FnOk X.prog X.w X.K X.mg X.base CXx k f fd ps sp) (hr : Room (k + 1) X.A) (hg : Gl X x) (hm : X.mg x = some (.ref C)) (hb : Binds X.K fd ps []) (hx : ∀ σ, PassesAt CXx X σ (E σ))
    (ha : PA X (e :: es) t) (hdb : (x == ("__debug__" : Str)) = false) (he : starEach (e :: es) X.env = (false, eval e X.env) :: starEach es X.env) (hpl : (backTo pos (starEach es X.env)).any (·.1) = false) :
    PE X (.Call (.Name x p) (e :: es) [] pos) (tMakeSD C sp E t) := by
  refine ⟨fun pins s σ H Q I h => ?_⟩
  refine wpAny_Call_Name_kw (ld_glob I hg hm ?_ hdb)
  refine PySem.W.callWith_K (h₀ := X.base) I.ok.mod.kin M.kp (thn (ha.run pos pins s σ H _ I h) fun us s1 ⟨vs, H1, I1, r, q⟩ => ⟨I1.kIn, ?_⟩) he hpl
  exact run_makeSD M F hr hb (hx σ) I1 r q
theorem pe_makeSD0 (M : Mk X.K C f) (F : FnOk X.prog X.w X.K X.mg X.base CXx k f fd ps sp) (hr : Room (k + 1) X.A) (hg : Gl X x) (hm : X.mg x = some (.ref C)) (hb : Binds X.K fd ps []) (hx : ∀ σ, PassesAt CXx X σ (E σ))
    (hdb : (x == ("__debug__" : Str)) = false) : PE X (.Call (.Name x p) [] [] pos) (tMakeSD C sp E tNil) := by
  refine ⟨fun pins s σ H Q I h => ?_⟩
  refine wpAny_Call_Name_kw (ld_glob I hg hm ?_ hdb)
  exact PySem.W.callWith_K0 I.kIn M.kp (run_makeSD (us := []) M F hr hb (hx σ) I .nil h)
end
/-! ### what is known of methods -/
structure MtC (P : Program) (w : World) (K : PySem.W.Frag) (mg : Str → Option Value) (base : Heap) (CA : String → Addr) (C m : String) (g : GFn) (k : Nat) : Prop where
  is : ∃ (Ca f : Addr) (fd : FuncData) (ps : List Str), PySem.W.nsIn K mainGlobals (Str.ofString C) = some (some (.ref Ca)) ∧ Cls K Ca ∧ Meth K Ca (Str.ofString m) f ∧ FnOk P w K mg base (L2.CX P w) k f fd ps (spG K CA C g ps.length) ∧ Binds K fd ps [] ∧ ∀ t fs ds, g t fs ds ≠ .st → ds.length + 1 = ps.length
structure MtR (P : Program) (w : World) (K : PySem.W.Frag) (mg : Str → Option Value) (base : Heap) (CA : String → Addr) (C m : String) (fn : Fn) (k : Nat) : Prop where
  is : ∃ (Ca f : Addr) (fd : FuncData) (ps : List Str), PySem.W.nsIn K mainGlobals (Str.ofString C) = some (some (.ref Ca)) ∧ Cls K Ca ∧ Meth K Ca (Str.ofString m) f ∧ FnOk P w K mg base (L2.CX P w) k f fd ps (spF K CA fn ps.length) ∧ Binds K fd ps [] ∧ ∀ as, fn as ≠ .st → as.length = ps.length
structure MtI (P : Program) (w : World) (K : PySem.W.Frag) (mg : Str → Option Value) (base : Heap) (CA : String → Addr) (C : String) (g : GFn) (k : Nat) : Prop where
  is : ∃ (Ca f : Addr) (fd : FuncData) (ps : List Str), PySem.W.nsIn K mainGlobals (Str.ofString C) = some (some (.ref Ca)) ∧ mg (Str.ofString C) = some (.ref Ca) ∧ Mk K Ca f ∧ FnOk P w K mg base (L2.CX P w) k f fd ps (spG K CA C g ps.length) ∧ Binds K fd ps [] ∧ ∀ t fs ds, g t fs ds ≠ .st → ds.length + 1 = ps.length
/-! ### o.m(e, ..), a change at a place -/
def noKey (fs : List (Str × D)) (m : Str) : Bool := fs.all fun p => decide (p.1 ≠ m)
theorem noKey_ok {K : PySem.W.Frag} {H : Hp} {fs : List (Str × D)} {fvs : List (Str × V)} {g : List Addr} {m : Str} (r : RepK K H fs fvs g) (h : noKey fs m = true) : fvs.lookup m = none := by
  have hk : m ∉ fvs.map (·.1) := by
    rw [r.keys]
    intro z
    obtain ⟨p, hp, e⟩ := List.mem_map.mp z
    have := List.all_eq_true.mp h p hp
    simp at this
    exact this e
  clear r h
  induction fvs with
  | nil => rfl
  | cons p r ih =>
    obtain ⟨k0, v⟩ := p
    have : (m == k0) = false := by simpa using fun e : m = k0 => hk (by simp [e])
    rw [List.lookup_cons, this]
    exact ih fun z => hk (by simp at z ⊢; exact .inr z)
noncomputable def mcM (C m : String) (g : GFn) (p : SPh) (s : SA) : SM := fun ρ => (p ρ).out ρ fun x => match x.2.2 with
  | .obj t C' fs => if C' = C ∧ noKey fs (Str.ofString m) = true then (s ρ).out ρ fun xs => if x.1 ∈ (jn xs).is then .st else match allG fun t => g t fs (xs.map (·.2)) with
    | .ok fs' d => (match putAt ρ x (.obj t C fs') with
      | some ρ' => .ri ρ' .own d
      | none => .st)
    | .ex c fs' => (match putAt ρ x (.obj t C fs') with
      | some ρ' => .ex c ρ'
      | none => .st)
    | .st => .st else .st
  | _ => .st
section
variable {X : Cx} {CA : String → Addr} {W : WX} {C m : String} {g : GFn} {k : Nat} {p pos apos : Pos} {e o : Expr} {es : List Expr} {s : SA} {sp : SPh}
theorem mc_core {A : Addr → Prop} {H0 H H2 : Hp} {F : Nat → List Addr} {G : List (D × V)} {ρ : Env} {σ : L2.St} {Q : VK} {x : Nat × List Ix × D} {v : V} {t : Nat} {fs : List (Str × D)} {xs : List KD} {vs : List V} {gx : List Addr} {n : Nat} {a : Addr}
    (sr : SR X.K A H0 F G ρ σ H) (s2 : Same H H2) (at2 : PhAt ρ σ H2 x v) (ex : x.2.2 = .obj t C fs) (ev : v = .ref a) (rs : Reps X.K H2 (xs.map (·.2)) vs gx) (bo : BOk A H0 F (jn xs).is gx) (hj : x.1 ∉ (jn xs).is) (hn : (xs.map (·.2)).length + 1 = n)
    (h : MOk X.K CA W A H0 F ρ.length G σ H (match allG fun t => g t fs (xs.map (·.2)) with
      | .ok fs' d => (match putAt ρ x (.obj t C fs') with
        | some ρ' => .ri ρ' .own d
        | none => .st)
      | .ex c fs' => (match putAt ρ x (.obj t C fs') with
        | some ρ' => .ex c ρ'
        | none => .st)
      | .st => .st) Q) : spG X.K CA C g n (.ref a :: vs) H2 Q (WE W σ) := by
  obtain ⟨f0, r0, n0, m0, wr⟩ := at2.openG sr s2
  rw [ex, ev] at r0
  have htag : t = 0 ∨ t = a + 1 := by cases r0 with | obj q c n r z => exact z
  have hca : ∃ Ca, PySem.W.nsIn X.K mainGlobals (Str.ofString C) = some (some (.ref Ca)) := by cases r0 with | obj q c n r z => exact ⟨_, c⟩
  have r1 : Rep X.K H2 (.obj (a + 1) C fs) (.ref a) f0 := by cases r0 with | obj q c n r z => exact .obj q c n r (.inr rfl)
  have retag : ∀ {H' : Hp} {fs' : List (Str × D)} {f' : List Addr}, Rep X.K H' (.obj (a + 1) C fs') (.ref a) f' → Rep X.K H' (.obj t C fs') v f' := fun {H' fs' f'} r => by
    rw [ev]; cases r with | obj q c n r z => exact .obj q c n r htag
  refine ⟨a, fs, xs.map (·.2), gx, f0, hn, ⟨r1, rs⟩, rfl, n0, fun b hb => ⟨(m0 b hb).2.2, fun z => ?_⟩, ?_⟩
  · rcases bo b z with ⟨j', hj', q⟩ | q
    · exact hj (sr.dis j' x.1 b q (m0 b hb).1 ▸ hj')
    · exact q.2 x.1 (m0 b hb).1
  · cases hall : allG fun t => g t fs (xs.map (·.2)) with
    | st => rw [hall] at h; exact h.elim
    | ok fs' d =>
      have hg := allG_at (f := fun t => g t fs (xs.map (·.2))) (by rw [hall]; simp) (a + 1)
      simp only [hall] at hg h
      rw [hg]
      intro w H' f0' g' sH r' rv nd cond
      obtain ⟨nd1, nd2, nd3⟩ := List.nodup_append.mp nd
      have mg : ∀ b ∈ g', Mu (H' b) := fun b hb => (cond b (List.mem_append_right _ hb)).2
      have rx : Rep X.K (hidH H' g') (.obj t C fs') v f0' := (retag r').frame (fun b ob e tt => by
        have : b ∉ g' := fun z => by
          have := (mg b z).m
          rw [e] at this
          cases ob <;> first | exact tt.elim | exact this.elim
        rw [hidH_out this]; exact e) fun b hb ob e => by rw [hidH_out fun z => nd3 b hb b z rfl]; exact e
      obtain ⟨ρ', F', e1, sr', eff⟩ := wr (hidH H' g') (.obj t C fs') f0' (fun b ob e hb => by
        have hh : H' b = some ob := sH b ob (by rw [hidH_out hb]; exact e)
        rw [hidH_out fun z => ?_]; exact hh
        rcases (cond b (List.mem_append_right _ z)).1 with w | w
        · exact hb w
        · rw [w] at e; cases e) rx nd1 (fun b hb => (cond b (List.mem_append_left _ hb)).1.imp id fun z => s2.free z) (fun b hb => by
        rw [hidH_out fun z => nd3 b hb b z rfl]; exact (cond b (List.mem_append_left _ hb)).2)
      simp only [e1] at h
      exact h w (hidH H' g') H' F' g' sr' eff (same_hid H' g') rv ⟨nd2, fun b hb => ⟨hidH_in hb, mg b hb⟩⟩
    | ex c fs' =>
      have hg := allG_at (f := fun t => g t fs (xs.map (·.2))) (by rw [hall]; simp) (a + 1)
      simp only [hall] at hg h
      rw [hg]
      intro H' f0' sH r' nd cond
      obtain ⟨ρ', F', e1, sr', eff⟩ := wr H' (.obj t C fs') f0' (fun b ob e hb => sH b ob (by rw [hidH_out hb]; exact e)) (retag r') nd (fun b hb => (cond b hb).1.imp id fun z => s2.free z) (fun b hb => (cond b hb).2)
      simp only [e1] at h
      exact h H' F' sr'
theorem m_meth (tk : Takes X W) (hr : Room k X.A) (hm : MtC X.prog X.w X.K X.mg X.base CA C m g k) (ho : PE X o (tP CA W X.K sp)) (ha : PA X (e :: es) (tA X.K CA W s)) {pl : Sem Bool}
    (hst : starEach (e :: es) X.env = (false, eval e X.env) :: starEach es X.env := by rfl) (hpl : (backTo pos (starEach es X.env)).any (·.1) = false := by rfl)
    (ht : eval (.Call (.Attribute o (Str.ofString m) apos) (e :: es) [] pos) X.env = (do
      let ov ← eval o X.env
      standAt apos.atName
      let (f, first) ← holding [ov] (getMethod ov (Str.ofString m) pl)
      callWith pos f first (backTo pos (starEach (e :: es) X.env)) (backToKw pos (keywordEach [] X.env))) := by rfl) :
    PE X (.Call (.Attribute o (Str.ofString m) apos) (e :: es) [] pos) (tM X.K CA W (mcM C m g sp s)) := by
  obtain ⟨Ca, f, fd, ps, hC, c, mt, Fn, hb, hz⟩ := hm.is
  refine peI (pe_methSD ho c mt Fn hr hb (fun σ => passAt tk σ) ha hst hpl ht) fun σ H Q ⟨A, H0, F, G, ρ, sr, h⟩ => ?_
  refine ⟨A, H0, F, G, ρ, sr, (MOk.lift h sr).imp fun x _ q v H1 s1 at1 => ?_⟩
  obtain ⟨f0, r0, _, _, _⟩ := at1.openG sr s1
  obtain ⟨j, qq, d0⟩ := x
  cases d0 with
  | obj t C' fs =>
    simp only at q
    by_cases hh : C' = C ∧ noKey fs (Str.ofString m) = true
    · rw [if_pos hh] at q
      obtain ⟨rfl, hk⟩ := hh
      cases r0 with
      | @obj _ _ a Ca' dx fvs _ f1 hl hCa nk rs0 htg =>
        rw [hC] at hCa; cases hCa
        refine ⟨a, dx, fvs, rfl, .of hl, noKey_ok rs0 hk, A, H0, F, G, ρ, sr.same s1, (MOk.lift (q.later s1) (sr.same s1)).imp fun xs _ q3 vs H2 gx s2 rs os => ?_⟩
        by_cases hj : j ∈ (jn xs).is
        · rw [if_pos hj] at q3; exact q3.elim
        · rw [if_neg hj] at q3
          have hl : (xs.map (·.2)).length + 1 = ps.length := by
            cases hall : allG fun t => g t fs (xs.map (·.2)) with
            | st => rw [hall] at q3; exact q3.elim
            | ok fs' d => exact hz 0 fs _ (by rw [allG_at (f := fun t => g t fs (xs.map (·.2))) (by rw [hall]; simp) 0, hall]; simp)
            | ex c fs' => exact hz 0 fs _ (by rw [allG_at (f := fun t => g t fs (xs.map (·.2))) (by rw [hall]; simp) 0, hall]; simp)
          exact mc_core (x := (j, qq, .obj t C' fs)) (sr.same s1) s2 (at1.same s2) rfl rfl rs (os.bok (sr.same s1)) hj hl q3
    · rw [if_neg hh] at q; exact q.elim
  | _ => exact q.elim
theorem m_meth0 (tk : Takes X W) (hr : Room k X.A) (hm : MtC X.prog X.w X.K X.mg X.base CA C m g k) (ho : PE X o (tP CA W X.K sp)) {pl : Sem Bool}
    (ht : eval (.Call (.Attribute o (Str.ofString m) apos) [] [] pos) X.env = (do
      let ov ← eval o X.env
      standAt apos.atName
      let (f, first) ← holding [ov] (getMethod ov (Str.ofString m) pl)
      callWith pos f first (backTo pos (starEach [] X.env)) (backToKw pos (keywordEach [] X.env))) := by rfl) :
    PE X (.Call (.Attribute o (Str.ofString m) apos) [] [] pos) (tM X.K CA W (mcM C m g sp nilA)) := by
  obtain ⟨Ca, f, fd, ps, hC, c, mt, Fn, hb, hz⟩ := hm.is
  refine peI (pe_methSD0 ho c mt Fn hr hb (fun σ => passAt tk σ) ht) fun σ H Q ⟨A, H0, F, G, ρ, sr, h⟩ => ?_
  refine ⟨A, H0, F, G, ρ, sr, (MOk.lift h sr).imp fun x _ q v H1 s1 at1 => ?_⟩
  obtain ⟨f0, r0, _, _, _⟩ := at1.openG sr s1
  obtain ⟨j, qq, d0⟩ := x
  cases d0 with
  | obj t C' fs =>
    simp only at q
    by_cases hh : C' = C ∧ noKey fs (Str.ofString m) = true
    · rw [if_pos hh] at q
      obtain ⟨rfl, hk⟩ := hh
      cases r0 with
      | @obj _ _ a Ca' dx fvs _ f1 hl hCa nk rs0 htg =>
        rw [hC] at hCa; cases hCa
        refine ⟨a, dx, fvs, rfl, .of hl, noKey_ok rs0 hk, ?_⟩
        have q3 : MOk X.K CA W A H0 F ρ.length G σ H (if j ∈ (jn []).is then .st else match allG fun t => g t fs (([] : List KD).map (·.2)) with
          | .ok fs' d => (match putAt ρ (j, qq, .obj t C' fs) (.obj t C' fs') with
            | some ρ' => .ri ρ' .own d
            | none => .st)
          | .ex c fs' => (match putAt ρ (j, qq, .obj t C' fs) (.obj t C' fs') with
            | some ρ' => .ex c ρ'
            | none => .st)
          | .st => .st) Q := q
        have hj : j ∉ (jn []).is := by simp [jn, Kd.is]
        rw [if_neg hj] at q3
        have hl : (([] : List KD).map (·.2)).length + 1 = ps.length := by
          cases hall : allG fun t => g t fs (([] : List KD).map (·.2)) with
          | st => rw [hall] at q3; exact q3.elim
          | ok fs' d => exact hz 0 fs _ (by rw [allG_at (f := fun t => g t fs (([] : List KD).map (·.2))) (by rw [hall]; simp) 0, hall]; simp)
          | ex c fs' => exact hz 0 fs _ (by rw [allG_at (f := fun t => g t fs (([] : List KD).map (·.2))) (by rw [hall]; simp) 0, hall]; simp)
        exact mc_core (x := (j, qq, .obj t C' fs)) (xs := []) (vs := []) (gx := []) (sr.same s1) (Same.refl _) at1 rfl rfl .nil (fun a ha => nomatch ha) hj hl (q3.later s1)
    · rw [if_neg hh] at q; exact q.elim
  | _ => exact q.elim
end
end Cz
set_option maxHeartbeats 2000000
/-! Cz25: methods that only read; new instances, sealed ones. -/
namespace Cz
open PySem PySem.Spec PyProof.Rows L2
/-! ### o.m(e, ..) of what is only read -/
def rmK (C m : String) (fn : Fn) (x : KD) (xs : List KD) : R KD := (fn (x.2 :: xs.map (·.2))).bind fun kd => .ok (retK kd.1 (jn (x :: xs)), kd.2)
def rmE (C m : String) (fn : Fn) (a : SE) (s : SA) : SE := fun ρ => (a ρ).bind fun x => match x.2 with
  | .obj _ C' fs => if C' = C ∧ noKey fs (Str.ofString m) = true then (s ρ).bind fun xs => rmK C m fn x xs else .st
  | .sob C' fs => if C' = C ∧ noKey fs (Str.ofString m) = true then (s ρ).bind fun xs => rmK C m fn x xs else .st
  | _ => .st
section
variable {X : Cx} {CA : String → Addr} {W : WX} {C m : String} {fn : Fn} {k : Nat} {p pos apos : Pos} {e o : Expr} {es : List Expr} {s : SA} {so : SE}
/-- what the object is, for the call -/
theorem rm_obj {K : PySem.W.Frag} {H : Hp} {x : KD} {v : V} {f : List Addr} {Ca : Addr} {ok : KD → Prop} {W : WX} {σ : L2.St} {Hs : Hp} {s : SA} {ρ : Env} (r0 : Rep K H x.2 v f) (hC : PySem.W.nsIn K mainGlobals (Str.ofString C) = some (some (.ref Ca)))
    (h : Post K CA W σ Hs (match x.2 with
      | .obj _ C' fs => if C' = C ∧ noKey fs (Str.ofString m) = true then (s ρ).bind fun xs => rmK C m fn x xs else .st
      | .sob C' fs => if C' = C ∧ noKey fs (Str.ofString m) = true then (s ρ).bind fun xs => rmK C m fn x xs else .st
      | _ => .st) ok) : (∃ a dx fvs, v = .ref a ∧ Rd H a (.ins Ca dx fvs) ∧ fvs.lookup (Str.ofString m) = none) ∧ Post K CA W σ Hs ((s ρ).bind fun xs => rmK C m fn x xs) ok := by
  obtain ⟨kx, d⟩ := x
  cases d with
  | obj t C' fs =>
    simp only at h
    by_cases hh : C' = C ∧ noKey fs (Str.ofString m) = true
    · rw [if_pos hh] at h
      obtain ⟨rfl, hk⟩ := hh
      cases r0 with
      | @obj _ _ a Ca' dx fvs _ f1 hl hCa nk rs0 htg =>
        rw [hC] at hCa; cases hCa
        exact ⟨⟨a, dx, fvs, rfl, .of hl, noKey_ok rs0 hk⟩, h⟩
    · rw [if_neg hh] at h; exact h.elim
  | sob C' fs =>
    simp only at h
    by_cases hh : C' = C ∧ noKey fs (Str.ofString m) = true
    · rw [if_pos hh] at h
      obtain ⟨rfl, hk⟩ := hh
      cases r0 with
      | @sob _ a Ca' dx ob fvs _ hl hCa nk rs0 =>
        rw [hC] at hCa; cases hCa
        exact ⟨⟨a, dx, fvs, rfl, .inr ⟨ob, hl⟩, noKey_ok rs0 hk⟩, h⟩
    · rw [if_neg hh] at h; exact h.elim
  | _ => exact h.elim
theorem e_rm (tk : Takes X W) (hr : Room k X.A) (hm : MtR X.prog X.w X.K X.mg X.base CA C m fn k) (ho : PE X o (tE X.K CA W so)) (ha : PA X (e :: es) (tA X.K CA W s)) {pl : Sem Bool}
    (hst : starEach (e :: es) X.env = (false, eval e X.env) :: starEach es X.env := by rfl) (hpl : (backTo pos (starEach es X.env)).any (·.1) = false := by rfl)
    (ht : eval (.Call (.Attribute o (Str.ofString m) apos) (e :: es) [] pos) X.env = (do
      let ov ← eval o X.env
      standAt apos.atName
      let (f, first) ← holding [ov] (getMethod ov (Str.ofString m) pl)
      callWith pos f first (backTo pos (starEach (e :: es) X.env)) (backToKw pos (keywordEach [] X.env))) := by rfl) :
    PE X (.Call (.Attribute o (Str.ofString m) apos) (e :: es) [] pos) (tE X.K CA W (rmE C m fn so s)) := by
  obtain ⟨Ca, f, fd, ps, hC, c, mt, Fn, hb, hz⟩ := hm.is
  refine peI (pe_methSD ho c mt Fn hr hb (fun σ => passAt tk σ) ha hst hpl ht) fun σ H Q ⟨A, H0, F, G, ρ, sr, h⟩ => ?_
  refine ⟨A, H0, F, G, ρ, sr, Post.bind h fun x h1 => ?_⟩
  intro v H1 f1 s1 r1 o1
  obtain ⟨⟨a, dx, fvs, ev, hR, hL⟩, h2⟩ := rm_obj (x := x) r1 hC h1
  refine ⟨a, dx, fvs, ev, hR, hL, A, H0, F, G, ρ, sr.same s1, Post.bind (h2.later s1) fun xs h3 => ?_⟩
  intro vs H2 f2 s2 rs os
  have rr : Reps X.K H2 ((x :: xs).map (·.2)) (v :: vs) (f1 ++ f2) := .cons (r1.same s2) rs
  have oo : KOk A H0 F H H2 (jn (x :: xs)) (f1 ++ f2) := KOk.join sr s1 s2 r1.trk (KOk.nk r1 o1) os
  have hl : ((x :: xs).map (·.2)).length = ps.length := hz _ fun z => by
    have h3 : Post X.K CA W σ H1 (rmK C m fn x xs) _ := h3
    unfold rmK at h3
    rw [List.map_cons] at z
    rw [z] at h3; exact h3
  have := call_ok (CA := CA) (W := W) (fn := fn) (dvs := []) (dd := []) sr (s1.trans s2) rr oo .nil (n := ps.length) (by rw [List.append_nil, ← rr.length]; exact hl) (Q := Q) (by
    rw [List.append_nil]; exact h3.later s2)
  rw [List.append_nil] at this
  exact this
theorem e_rm0 (tk : Takes X W) (hr : Room k X.A) (hm : MtR X.prog X.w X.K X.mg X.base CA C m fn k) (ho : PE X o (tE X.K CA W so)) {pl : Sem Bool}
    (ht : eval (.Call (.Attribute o (Str.ofString m) apos) [] [] pos) X.env = (do
      let ov ← eval o X.env
      standAt apos.atName
      let (f, first) ← holding [ov] (getMethod ov (Str.ofString m) pl)
      callWith pos f first (backTo pos (starEach [] X.env)) (backToKw pos (keywordEach [] X.env))) := by rfl) :
    PE X (.Call (.Attribute o (Str.ofString m) apos) [] [] pos) (tE X.K CA W (rmE C m fn so nilA)) := by
  obtain ⟨Ca, f, fd, ps, hC, c, mt, Fn, hb, hz⟩ := hm.is
  refine peI (pe_methSD0 ho c mt Fn hr hb (fun σ => passAt tk σ) ht) fun σ H Q ⟨A, H0, F, G, ρ, sr, h⟩ => ?_
  refine ⟨A, H0, F, G, ρ, sr, Post.bind h fun x h1 => ?_⟩
  intro v H1 f1 s1 r1 o1
  obtain ⟨⟨a, dx, fvs, ev, hR, hL⟩, h2⟩ := rm_obj (x := x) r1 hC h1
  have h3 : Post X.K CA W σ H (rmK C m fn x []) fun kd => Cont X.K A H0 F H kd Q := h2
  refine ⟨a, dx, fvs, ev, hR, hL, ?_⟩
  have rr : Reps X.K H1 (([x] : List KD).map (·.2)) [v] (f1 ++ []) := .cons r1 .nil
  have oo : KOk A H0 F H H1 (jn [x]) (f1 ++ []) := KOk.join (k' := .own) sr s1 (Same.refl _) r1.trk (KOk.nk r1 o1) (KOk.nil _)
  have hl : (([x] : List KD).map (·.2)).length = ps.length := hz _ fun z => by
    unfold rmK at h3
    have z' : fn (x.2 :: ([] : List KD).map (·.2)) = .st := z
    rw [z'] at h3; exact h3
  have := call_ok (CA := CA) (W := W) (fn := fn) (dvs := []) (dd := []) sr s1 rr oo .nil (n := ps.length) (by rw [List.append_nil, ← rr.length]; exact hl) (Q := Q) (by
    rw [List.append_nil]; exact h3.later s1)
  rw [List.append_nil] at this
  exact this
/-! ### C(e, ..) -/
noncomputable def mkE (C : String) (g : GFn) (s : SA) : SE := fun ρ => (s ρ).bind fun xs => match allG fun t => g t [] (xs.map (·.2)) with
  | .ok fs' .non => .ok (.own, .obj 0 C fs')
  | .ex c _ => .ex c
  | _ => .st
theorem mk_core {A : Addr → Prop} {H0 H H1 : Hp} {F : Nat → List Addr} {G : List (D × V)} {ρ : Env} {σ : L2.St} {Q : VK} {xs : List KD} {vs : List V} {gx : List Addr} {n : Nat} {Ca x dx : Addr} {ok : List (Str × D) → Prop}
    (sr : SR X.K A H0 F G ρ σ H) (s1 : Same H H1) (hC : PySem.W.nsIn X.K mainGlobals (Str.ofString C) = some (some (.ref Ca))) (rs : Reps X.K H1 (xs.map (·.2)) vs gx) (hn : (xs.map (·.2)).length + 1 = n) (nx : H1 x = none) (nd : H1 dx = none) (ne : dx ≠ x) {g : GFn}
    (h : Post X.K CA W σ H (match allG fun t => g t [] (xs.map (·.2)) with
      | .ok fs' .non => (.ok fs' : R (List (Str × D)))
      | .ex c _ => .ex c
      | _ => .st) ok)
    (hq : ∀ fs', ok fs' → ∀ H' f', Same H H' → Rep X.K H' (.obj 0 C fs') (.ref x) f' → f'.Nodup → (∀ a ∈ f', H a = none ∧ Mu (H' a)) → Q (.ref x) H') :
    spG X.K CA C g n (.ref x :: vs) (upd (upd H1 dx (.own x)) x (.ins Ca dx [])) (fun v H2 => v = .non ∧ Q (.ref x) H2) (WE W σ) := by
  have sH : Same H1 (upd (upd H1 dx (.own x)) x (.ins Ca dx [])) := fun b o e => by
    rw [upd_ne (ne_of_none e nx), upd_ne (ne_of_none e nd)]; exact e
  have sH2 : ∀ {H' : Hp}, Same (hidH (upd (upd H1 dx (.own x)) x (.ins Ca dx [])) [x]) H' → Same H H' := fun {H'} s b o e => by
    have e1 := s1 b o e
    have hb : b ∉ [x] := fun z => by rw [List.mem_singleton.mp z] at e1; rw [nx] at e1; cases e1
    exact s b o (by rw [hidH_out hb]; exact sH b o e1)
  have mu : Mu ((upd (upd H1 dx (.own x)) x (.ins Ca dx [])) x) := ⟨by rw [upd_same]; trivial⟩
  refine ⟨x, [], xs.map (·.2), gx, [x], hn, ⟨.obj upd_same hC List.nodup_nil .nil (.inr rfl), rs.same sH⟩, rfl, by simp, fun b hb => ?_, ?_⟩
  · rw [List.mem_singleton.mp hb]
    exact ⟨mu, fun z => rs.trk x z nx⟩
  · have fr : ∀ {a : Addr} {H' : Hp}, (a ∈ [x] ∨ (upd (upd H1 dx (.own x)) x (.ins Ca dx [])) a = none) → H a = none := fun {a H'} z => by
      rcases z with z | z
      · rw [List.mem_singleton.mp z]; exact s1.free nx
      · exact s1.free (sH.free z)
    cases hall : allG fun t => g t [] (xs.map (·.2)) with
    | st => rw [hall] at h; exact h.elim
    | ok fs' d =>
      have hg := allG_at (f := fun t => g t [] (xs.map (·.2))) (by rw [hall]; simp) (x + 1)
      simp only [hall] at hg h
      rw [hg]
      intro v H' f0' g' s' r' rv nd' cond
      cases d with
      | non =>
        cases rv
        refine ⟨rfl, hq fs' h H' f0' (sH2 s') (by cases r' with | obj q c n r z => exact .obj q c n r (.inl rfl)) (by simpa using nd') fun a ha => ?_⟩
        have := cond a (List.mem_append_left _ ha)
        exact ⟨fr (H' := H') this.1, this.2⟩
      | _ => exact h.elim
    | ex c fs' =>
      have hg := allG_at (f := fun t => g t [] (xs.map (·.2))) (by rw [hall]; simp) (x + 1)
      simp only [hall] at hg h
      rw [hg]
      intro H' f0' s' r' nd' cond
      exact h H' (sH2 s')
theorem mk_len {g : GFn} {n : Nat} {ds : List D} {ok : List (Str × D) → Prop} {K : PySem.W.Frag} {σ : L2.St} {H : Hp} (hz : ∀ t fs ds, g t fs ds ≠ .st → ds.length + 1 = n)
    (h : Post K CA W σ H (match allG fun t => g t [] ds with
      | .ok fs' .non => (.ok fs' : R (List (Str × D)))
      | .ex c _ => .ex c
      | _ => .st) ok) : ds.length + 1 = n := by
  cases hall : allG fun t => g t [] ds with
  | st => rw [hall] at h; exact h.elim
  | ok fs' d => exact hz 0 [] _ (by rw [allG_at (f := fun t => g t [] ds) (by rw [hall]; simp) 0, hall]; simp)
  | ex c fs' => exact hz 0 [] _ (by rw [allG_at (f := fun t => g t [] ds) (by rw [hall]; simp) 0, hall]; simp)
theorem mk_split {g : GFn} {ds : List D} {K : PySem.W.Frag} {σ : L2.St} {H : Hp} {ok : KD → Prop} {f : List (Str × D) → R KD} (h : Post K CA W σ H (match allG fun t => g t [] ds with
      | .ok fs' .non => f fs'
      | .ex c _ => .ex c
      | _ => .st) ok) : Post K CA W σ H (match allG fun t => g t [] ds with
      | .ok fs' .non => (.ok fs' : R (List (Str × D)))
      | .ex c _ => .ex c
      | _ => .st) fun fs' => Post K CA W σ H (f fs') ok := by
  cases hall : allG fun t => g t [] ds with
  | st => rw [hall] at h; exact h.elim
  | ok fs' d => rw [hall] at h; cases d <;> first | exact h | exact h.elim
  | ex c fs' => rw [hall] at h; exact h
theorem e_mk {g : GFn} (tk : Takes X W) (hr : Room (k + 1) X.A) (hm : MtI X.prog X.w X.K X.mg X.base CA C g k) (ha : PA X (e :: es) (tA X.K CA W s)) (hg : Gl X (Str.ofString C) := by rfl) (hdb : (Str.ofString C == ("__debug__" : Str)) = false := by decide)
    (he : starEach (e :: es) X.env = (false, eval e X.env) :: starEach es X.env := by rfl) (hpl : (backTo pos (starEach es X.env)).any (·.1) = false := by rfl) : PE X (.Call (.Name (Str.ofString C) p) (e :: es) [] pos) (tE X.K CA W (mkE C g s)) := by
  obtain ⟨Ca, f, fd, ps, hC, hmg, M, Fn, hb, hz⟩ := hm.is
  refine peI (pe_makeSD M Fn hr hg hmg hb (fun σ => passAt tk σ) ha hdb he hpl) fun σ H Q ⟨A, H0, F, G, ρ, sr, h⟩ => ?_
  refine ⟨A, H0, F, G, ρ, sr, Post.bind h fun xs h1 => ?_⟩
  intro vs H1 gx s1 rs os x dx nx nd ne
  have h2 := mk_split h1
  exact mk_core sr s1 hC rs (mk_len hz h2) nx nd ne h2 fun fs' hk H' f' s' r n m => hk (.ref x) H' f' s' r ⟨n, m⟩
theorem e_mk0 {g : GFn} (tk : Takes X W) (hr : Room (k + 1) X.A) (hm : MtI X.prog X.w X.K X.mg X.base CA C g k) (hg : Gl X (Str.ofString C) := by rfl) (hdb : (Str.ofString C == ("__debug__" : Str)) = false := by decide) : PE X (.Call (.Name (Str.ofString C) p) [] [] pos) (tE X.K CA W (mkE C g nilA)) := by
  obtain ⟨Ca, f, fd, ps, hC, hmg, M, Fn, hb, hz⟩ := hm.is
  refine peI (pe_makeSD0 M Fn hr hg hmg hb (fun σ => passAt tk σ) hdb) fun σ H Q ⟨A, H0, F, G, ρ, sr, h⟩ => ?_
  intro x dx nx nd ne
  have h2 := mk_split (f := fun fs' => .ok (.own, .obj 0 C fs')) (ds := ([] : List KD).map (·.2)) h
  exact mk_core (xs := []) sr (Same.refl _) hC .nil (mk_len hz h2) nx nd ne h2 fun fs' hk H' f' s' r n m => hk (.ref x) H' f' s' r ⟨n, m⟩
end
/-! ### sealed -/
open Classical in
noncomputable def frzH (H : Hp) (L : List Addr) (os : Addr → Obj) : Hp := fun a => if a ∈ L then (H a).map fun u => .frz (os a) u else H a
theorem frzH_in {H : Hp} {L : List Addr} {os : Addr → Obj} {a : Addr} {u : HO} (h : a ∈ L) (e : H a = some u) : frzH H L os a = some (.frz (os a) u) := by unfold frzH; rw [if_pos h, e]; rfl
theorem frzH_out {H : Hp} {L : List Addr} {os : Addr → Obj} {a : Addr} (h : a ∉ L) : frzH H L os a = H a := if_neg h
section
variable {X : Cx} {pins : List (Addr × Obj)} {σ : L2.St} {H : Hp} {s : Shared}
/-- what is known may be sealed -/
theorem Inv.frzL (I : Inv X pins σ H s) (L : List Addr) (hL : ∀ a ∈ L, L2.Mut (H a)) : ∃ os, Inv X pins σ (frzH H L os) s := by
  have hex : ∀ a, a ∈ L → ∃ o, s.heap.get? a = some o := fun a ha => by
    have m := hL a ha
    cases e : H a with
    | none => rw [e] at m; exact m.elim
    | some u =>
      have := I.hok a u e
      cases u with
      | lst xs => obtain ⟨_, _, _, _, q⟩ := this; exact ⟨_, q⟩
      | dK kvs => obtain ⟨_, _, _, _, o, _, _, q, _⟩ := this; exact ⟨o, q⟩
      | dT kvs => obtain ⟨_, _, _, _, o, _, _, q, _⟩ := this; exact ⟨o, q⟩
      | set S n => obtain ⟨o, _, _, _, q, _⟩ := this; exact ⟨o, q⟩
      | ins C dx fs => obtain ⟨_, _, _, q, _⟩ := this; exact ⟨_, q⟩
      | ext φ => obtain ⟨_, ⟨o, q⟩, _⟩ := this; exact ⟨o, q⟩
      | _ => rw [e] at m; exact m.elim
  refine ⟨fun a => ((s.heap.get? a).getD default), ?_⟩
  have nL : ∀ {a : Addr} {u : HO}, H a = some u → ¬ L2.Mut (some u) → a ∉ L := fun {a u} e n z => by
    have := hL a z
    rw [e] at this; exact n this
  have stay : ∀ {a : Addr} {u : HO}, ObjOk X.prog X.w H s.heap a u → ObjOk X.prog X.w (frzH H L fun a => ((s.heap.get? a).getD default)) s.heap a u := fun {a u} x =>
    x.stay (fun _ _ _ q => q) (fun b e => by rw [frzH_out (nL e fun z => z)]; exact e) fun b xs e => by rw [frzH_out (nL e fun z => z)]; exact e
  refine I.un (t' := s.toks) ⟨fun b o q _ _ _ => q, fun b o q _ _ _ => ⟨o.slots, q⟩, fun b o q n _ => ?_, fun b o q _ => ⟨o, q⟩, fun b xs e => ?_, fun b o u e => ?_, fun b ps e => ⟨#[], ?_⟩⟩ fun a u e => ?_
  · by_cases h : b ∈ L
    · have := hL b h
      rw [n] at this; exact this.elim
    · rw [frzH_out h]; exact n
  · rw [frzH_out (nL e fun z => z)]; exact e
  · rw [frzH_out (nL e fun z => z)]; exact e
  · rw [frzH_out (nL e fun z => z), e]; simp
  · by_cases h : a ∈ L
    · obtain ⟨o, ho⟩ := hex a h
      cases eu : H a with
      | none => unfold frzH at e; rw [if_pos h, eu] at e; cases e
      | some u0 =>
        rw [frzH_in h eu] at e
        cases e
        refine ⟨?_, stay (I.hok a u0 eu)⟩
        show s.heap.get? a = some ((s.heap.get? a).getD default)
        rw [ho]; rfl
    · rw [frzH_out h] at e
      exact stay (I.hok a u e)
end
theorem pe_frz {X : Cx} {e : Expr} {t : TE} (h : PE X e t) : PE X e (fun σ H Q => t σ H fun v H1 => ∃ L : List Addr, (∀ a ∈ L, L2.Mut (H1 a)) ∧ ∀ os, Q v (frzH H1 L os)) := by
  refine ⟨fun pins s σ H Q I q => ?_⟩
  refine thn (h.run pins s σ H _ I q) fun u s1 ⟨v, H1, I1, r1, L, hL, k⟩ => ?_
  obtain ⟨os, I2⟩ := Inv.frzL I1 L hL
  exact ⟨v, _, I2, r1, k os⟩
/-- the sealed fields -/
def sealV : D → Option D
  | .dic kvs => if noLs (kvs.map (·.2)) = true then some (.fdc kvs) else none
  | d => if noL d = true then some d else none
def sealF : List (Str × D) → Option (List (Str × D))
  | [] => some []
  | (f, d) :: r => match sealV d, sealF r with
    | some d', some r' => some ((f, d') :: r')
    | _, _ => none
section
variable {K : PySem.W.Frag} {H : Hp}
theorem RepK.noLs' {κ : Type} : ∀ {kds : List (κ × D)} {kvs : List (κ × V)} {f : List Addr}, RepK K H kds kvs f → noLs (kds.map (·.2)) = true → f = []
  | _, _, _, .nil, _ => rfl
  | _, _, _, .cons (f := f1) (g := g1) r t, h => by
    simp only [List.map_cons, noLs, Bool.and_eq_true] at h
    rw [r.noL h.1, RepK.noLs' t h.2]; rfl
/-- a rep all of whose nodes are sealed -/
theorem sealV_rep {H' : Hp} {d d' : D} {v : V} {f : List Addr} (r : Rep K H d v f) (e : sealV d = some d') (ht : ∀ b o, H b = some o → IsT o → H' b = some o) (hz : ∀ a ∈ f, ∀ u, H a = some u → ∃ o, H' a = some (.frz o u)) : Rep K H' d' v [] := by
  have plain : noL d = true → d' = d → Rep K H' d' v [] := fun h1 h2 => by
    subst h2
    have := r.noL h1
    subst this
    exact r.frame ht fun a ha => nomatch ha
  cases d with
  | dic kvs =>
    simp only [sealV] at e
    split at e
    · rename_i hn
      cases e
      cases r with
      | @dic a kv _ f1 hl nk rs =>
        have := rs.noLs' hn
        subst this
        obtain ⟨o, ho⟩ := hz a (by simp) _ hl
        exact .fdc ho nk (rs.frame ht fun a ha => nomatch ha)
    · cases e
  | _ =>
    simp only [sealV] at e
    split at e
    · rename_i hn; exact plain hn (Option.some.inj e).symm
    · cases e
theorem sealF_rep {H' : Hp} : ∀ {fs fs' : List (Str × D)} {fvs : List (Str × V)} {f : List Addr}, RepK K H fs fvs f → sealF fs = some fs' → (∀ b o, H b = some o → IsT o → H' b = some o) → (∀ a ∈ f, ∀ u, H a = some u → ∃ o, H' a = some (.frz o u)) → RepK K H' fs' fvs [] ∧ fs'.map (·.1) = fs.map (·.1)
  | _, _, _, _, .nil, e, _, _ => by cases e; exact ⟨.nil, rfl⟩
  | _, fs', _, _, .cons (k := k) (d := d) (ds := ds) (f := f1) (g := g1) r t, e, ht, hz => by
    unfold sealF at e
    cases h1 : sealV d with
    | none => rw [h1] at e; cases e
    | some d' =>
      cases h2 : sealF ds with
      | none => rw [h1, h2] at e; cases e
      | some r' =>
        rw [h1, h2] at e
        cases e
        obtain ⟨q1, q2⟩ := sealF_rep t h2 ht fun a ha => hz a (List.mem_append_right _ ha)
        exact ⟨.cons (f := []) (g := []) (sealV_rep r h1 ht fun a ha => hz a (List.mem_append_left _ ha)) q1, by simp [q2]⟩
end
noncomputable def mkzE (C : String) (g : GFn) (s : SA) : SE := fun ρ => (s ρ).bind fun xs => match allG fun t => g t [] (xs.map (·.2)) with
  | .ok fs' .non => R.of ((sealF fs').map fun fs2 => (Kd.own, D.sob C fs2))
  | .ex c _ => .ex c
  | _ => .st
section
variable {X : Cx} {CA : String → Addr} {W : WX} {C m : String} {fn : Fn} {k : Nat} {p pos apos : Pos} {e o : Expr} {es : List Expr} {s : SA} {so : SE}
theorem e_mkz {g : GFn} (tk : Takes X W) (hr : Room (k + 1) X.A) (hm : MtI X.prog X.w X.K X.mg X.base CA C g k) (ha : PA X (e :: es) (tA X.K CA W s)) (hg : Gl X (Str.ofString C) := by rfl) (hdb : (Str.ofString C == ("__debug__" : Str)) = false := by decide)
    (he : starEach (e :: es) X.env = (false, eval e X.env) :: starEach es X.env := by rfl) (hpl : (backTo pos (starEach es X.env)).any (·.1) = false := by rfl) : PE X (.Call (.Name (Str.ofString C) p) (e :: es) [] pos) (tE X.K CA W (mkzE C g s)) := by
  obtain ⟨Ca, f, fd, ps, hC, hmg, M, Fn, hb, hz⟩ := hm.is
  refine peI (pe_frz (pe_makeSD M Fn hr hg hmg hb (fun σ => passAt tk σ) ha hdb he hpl)) fun σ H Q ⟨A, H0, F, G, ρ, sr, h⟩ => ?_
  refine ⟨A, H0, F, G, ρ, sr, Post.bind h fun xs h1 => ?_⟩
  intro vs H1 gx s1 rs os x dx nx nd ne
  have h2 := mk_split h1
  refine mk_core (Q := fun v H1 => ∃ L : List Addr, (∀ a ∈ L, L2.Mut (H1 a)) ∧ ∀ os, Q v (frzH H1 L os)) sr s1 hC rs (mk_len hz h2) nx nd ne h2 fun fs' hk H' f' s' r n m => ?_
  obtain ⟨fs2, e1, hk⟩ := hk.of
  cases e2 : sealF fs' with
  | none => rw [e2] at e1; cases e1
  | some fs3 =>
    rw [e2] at e1
    cases e1
    refine ⟨f', fun a ha => (m a ha).2.m, fun os => ?_⟩
    have ht : ∀ b o, H' b = some o → IsT o → frzH H' f' os b = some o := fun b ob e t => by
      have : b ∉ f' := fun z => by
        have := (m b z).2.m
        rw [e] at this
        cases ob <;> first | exact t.elim | exact this.elim
      rw [frzH_out this]; exact e
    have sF : Same H (frzH H' f' os) := fun b ob e => by
      have : b ∉ f' := fun z => by rw [(m b z).1] at e; cases e
      rw [frzH_out this]; exact s' b ob e
    cases r with
    | @obj _ _ a Ca' dx' fvs _ f1 hl hCa nk rs0 htg =>
      obtain ⟨q1, q2⟩ := sealF_rep rs0 e2 ht fun b hb u eu => ⟨_, frzH_in (List.mem_cons_of_mem _ hb) eu⟩
      exact hk (.ref x) _ [] sF (.sob (frzH_in (by simp) hl) hCa (by rw [q2]; exact nk) q1) (KOk.nil _)
end
end Cz
set_option maxHeartbeats 2000000
/-! Cz26: the items and values of sealed dicts. -/
namespace Cz
open PySem PySem.Spec PyProof.Rows L2
def kyD : Key → D
  | .inl i => .int i
  | .inr x => .str x
theorem kyD_rep {K : PySem.W.Frag} {H : Hp} (k : Key) : Rep K H (kyD k) (kV k) [] := by
  cases k with
  | inl i => exact .int i
  | inr x => exact .str x
def itmD (kvs : List (Key × D)) : List D := kvs.map fun p => .tup [kyD p.1, p.2]
/-! ### for a, b in d.items(), for a in d.values() -/
def itmI (a : SE) : SI := fun ρ => (a ρ).bind fun x => match x.2 with
  | .fdc kvs => .ok (.own, itmD kvs)
  | _ => .st
def valI (a : SE) : SI := fun ρ => (a ρ).bind fun x => match x.2 with
  | .fdc kvs => .ok (.own, kvs.map (·.2))
  | _ => .st
theorem RepK.at0 {K : PySem.W.Frag} {H : Hp} {κ : Type} : ∀ {kds : List (κ × D)} {kvs : List (κ × V)} {i : Nat}, RepK K H kds kvs [] → i < kds.length → ∃ k d v, kds[i]? = some (k, d) ∧ kvs[i]? = some (k, v) ∧ Rep K H d v [] := by
  intro kds kvs i
  induction kds generalizing kvs i with
  | nil => intro _ h; simp at h
  | cons p kds ih =>
    intro r h
    generalize hg : ([] : List Addr) = g at r
    cases r with
    | @cons _ k d v f _ vs g1 r t =>
      obtain ⟨rfl, rfl⟩ := List.append_eq_nil_iff.mp hg.symm
      cases i with
      | zero => exact ⟨k, d, v, rfl, rfl, r⟩
      | succ i =>
        obtain ⟨k', d', v', h1, h2, h3⟩ := ih t (by simpa using h)
        exact ⟨k', d', v', by simpa using h1, by simpa using h2, h3⟩
section
variable {K : PySem.W.Frag}
theorem iter_itm {kds : List (Key × D)} {kvs : List (Key × V)} {d : Addr} {o : Obj} (hl : kds.length = kvs.length) (hr : ∀ H, H d = some (.frz o (.dK kvs)) → Rep K H (.fdc kds) (.ref d) [] → RepK K H kds kvs []) : IterOk K (Iti d o kvs) (itmD kds) [(.nod o (.dK kvs), .ref d), (.fdc kds, .ref d)] := by
  have gh : ∀ {H : Hp} {P : Addr → Prop}, Gh K H P [(.nod o (.dK kvs), .ref d), (.fdc kds, .ref d)] → H d = some (.frz o (.dK kvs)) ∧ RepK K H kds kvs [] := fun {H P} h => by
    obtain ⟨f, r, _⟩ := h (.nod o (.dK kvs), .ref d) (by simp)
    obtain ⟨f2, r2, _⟩ := h (.fdc kds, .ref d) (by simp)
    have e : H d = some (.frz o (.dK kvs)) := by cases r with | nod q => exact q
    have z : f2 = [] := r2.noL rfl
    subst z
    exact ⟨e, hr H e r2⟩
  refine ⟨fun H P i hi h => ⟨(gh h).1, by simp [itmD] at hi; omega⟩, fun H P h => ⟨(gh h).1, by simp [itmD]; omega⟩, fun H P i x H' hi h y => ?_⟩
  obtain ⟨T, k, v, h1, rfl, nT, rfl⟩ := y
  obtain ⟨_, rs⟩ := gh h
  simp only [itmD, List.length_map] at hi
  obtain ⟨k', d', v', q1, q2, q3⟩ := rs.at0 hi
  rw [h1] at q2; cases q2
  refine ⟨same_upd nT, .tup [kyD k, d'], [], by simp [itmD, q1], .tup upd_same ?_, fun a ha => nomatch ha⟩
  exact .cons (f := []) (g := []) (kyD_rep k) (.cons (f := []) (g := []) (q3.same (same_upd nT)) .nil)
end
section
variable {X : Cx} {CA : String → Addr} {W : WX} {pos p tpos apos cpos : Pos} {tg e : Expr} {sa : SE} {elts : List Expr} {kk : Nat}
theorem fdc_same {K : PySem.W.Frag} {H' : Hp} {kds : List (Key × D)} {kvs : List (Key × V)} {d : Addr} {o : Obj} (e' : H' d = some (.frz o (.dK kvs))) (r : Rep K H' (.fdc kds) (.ref d) []) : RepK K H' kds kvs [] := by
  cases r with
  | fdc q n r => rw [e'] at q; cases q; exact r
theorem i_itm (ha : PE X e (tE X.K CA W sa)) (hbase : attributeBase e "items" X.env (eval e X.env) = eval e X.env := by rfl) (hline : (apos.endLine == cpos.line) = true := by rfl) :
    PI X (.Tuple elts kk tpos) (.Call (.Attribute e "items" apos) [] [] cpos) (tI X.K CA W (itmI sa)) := by
  refine piI (pi_items ha hbase hline) fun σ H R ⟨A, H0, F, G, ρ, sr, h⟩ => ?_
  refine ⟨A, H0, F, G, ρ, sr, Post.bind h fun ⟨k, d⟩ h1 => ?_⟩
  intro v H1 f s r o
  cases d with
  | fdc kds =>
    cases r with
    | @fdc a ob kvs _ q n rs =>
      refine ⟨a, ob, kvs, rfl, q, h1 _ H1 _ s (iter_itm rs.length fun H e r => fdc_same e r) fun p hp => ?_⟩
      rcases List.mem_cons.mp hp with rfl | hp
      · exact ⟨[], .nod q, fun a ha => nomatch ha⟩
      · rw [List.mem_singleton.mp hp]
        exact ⟨[], .fdc q n rs, fun a ha => nomatch ha⟩
  | _ => exact h1.elim
end
/-! ### list(d.items()), sum(d.values()) -/
def tListItemsR (te : TE) : TE := fun σ H Q => te σ H fun x H1 => ∃ (d : Addr) (kvs : List (Key × V)), x = .ref d ∧ Rd H1 d (.dK kvs) ∧
  ∀ (H' : Hp) (p : Addr) (ts : List Addr), (∀ b o, H1 b = some o → H' b = some o) → H1 p = none → (∀ t ∈ ts, H1 t = none) → p ∉ ts → H' p = some (.lst (ts.map V.ref)) → Paired (fun (t : Addr) (q : Key × V) => H' t = some (.tup [kV q.1, q.2])) ts kvs → Q (.ref p) H'
section
variable {X : Cx} {e : Expr} {te : TE} {p apos cpos pos : Pos}
theorem pe_listItemsR (hc : X.calm = true) (he : PE X e te) (hg : Gl X "list") (hm : X.mg "list" = none) (hv : bootBuiltins "list" = some (.type "list")) (hbase : attributeBase e "items" X.env (eval e X.env) = eval e X.env) (hline : (apos.endLine == cpos.line) = true)
    (hs : starEach [.Call (.Attribute e "items" apos) [] [] cpos] X.env = (false, eval (.Call (.Attribute e "items" apos) [] [] cpos) X.env) :: starEach [] X.env) :
    PE X (.Call (.Name "list" p) [.Call (.Attribute e "items" apos) [] [] cpos] [] pos) (tListItemsR te) := by
  refine ⟨fun pins s σ H Q I hq => ?_⟩
  refine wpAny_Call_Name_kw (ld_blt I hg hm hv ?_)
  refine PyProof.Rows.callWith_type1 ?_ hs rfl
  rw [hs]
  show wpAny _ _ (spliced ((false, eval (.Call (.Attribute e "items" apos) [] [] cpos) X.env) :: backTo pos (starEach [] X.env))) _ _ s
  refine Calls.spliced_cons ?_
  refine wpAny_Call_method (T := "dict") (id := "dict.items") hbase rfl hline F.plainAttrs_dict F.slot_dict_items F.type_dict_items (thn (he.run pins s σ H _ I hq) fun u s1 ⟨x, H1, I1, rx, d, kvs, ex, hd, q⟩ => ?_)
  subst ex
  obtain rfl : u = Value.ref d := rx
  obtain ⟨hz, hs0, vs, kv, hdo⟩ := (show ObjOk X.prog X.w H1 s1.heap d (.dK kvs) from hd.ok I1.hok)
  obtain ⟨ep, hat⟩ := hdo.dictAt
  have lk : kvs.length = vs.length := Paired.length kv
  have I2 : Inv X pins σ H1 { s1 with heap := s1.heap.push { cls := .type "dict_items", data := .fields #[.ref d] } } := I1.kept (t' := s1.toks) fun b ob q => Heap.get?_push_of_some _ q
  refine ⟨hdo.typeIs, hdo.mapOf.noDict, ?_⟩
  show wpAny _ _ (callWith cpos (.builtin "dict.items") [.ref d] [] []) _ X.xe s1
  refine method_meetsIn F.slot_dict_items F.entry_dict_items rfl (PySem.evalArgs_none ⟨rfl, hdo.typeIs, F.args_dict_items_1 _, _, meets_dict_items (mixKind X.prog X.w) d hs0, ⟨vs, hdo⟩, ?_⟩)
  refine Calls.spliced_nil ?_
  refine PySem.W.kdx_call (knd := mixKind X.prog X.w) (kvs := vs) (ep := ep) (I1.ok.hd hc) ⟨_, Heap.get?_push_size _ rfl, rfl, rfl⟩ (hat.push _) (by omega) fun h' tk acc c as hk hS hl hG hacc => ?_
  obtain ⟨H', k1, k2, k3, k4, k5, k6, J⟩ := LiI.items_laid (tk := tk) I2 hz kv hk hS hl hG hacc
  exact ⟨.ref _, H', J, rfl, q H' _ as k1 k2 k3 k4 k5 k6⟩
/-- sum(o.values()), a dict with int values -/
def tSumVals (td : TE) : TE := fun σ H Q => td σ H fun x H1 => ∃ a kvs is, x = V.ref a ∧ Rd H1 a (.dK kvs) ∧ kvs.map (·.2) = is.map V.int ∧ Q (.int (is : List Int).sum) H1
theorem preSum_getD (is : List Int) : ∀ n, n ≤ is.length → preSum (fun i => is.getD i 0) n = (is.take n).sum := by
  intro n
  induction n with
  | zero => intro _; simp [preSum]
  | succ n ih =>
    intro h
    rw [preSum, ih (by omega), List.take_succ]
    have : is[n]? = some (is.getD n 0) := by simp [List.getD, show n < is.length by omega]
    rw [this]
    simp
theorem pe_sumVals {o : Expr} {td : TE} {mpos : Pos} (hc : X.calm = true) (hg : Gl X "sum") (hm : X.mg "sum" = none) (hd : PE X o td) (hbase : attributeBase o "values" X.env (eval o X.env) = eval o X.env) (hline : (apos.endLine == mpos.line) = true)
    (hse : starEach [Expr.Call (.Attribute o "values" apos) [] [] mpos] X.env = [(false, eval (Expr.Call (.Attribute o "values" apos) [] [] mpos) X.env)]) :
    PE X (.Call (.Name "sum" p) [.Call (.Attribute o "values" apos) [] [] mpos] [] pos) (tSumVals td) := by
  refine ⟨fun pins s σ H Q I h => ?_⟩
  refine wpAny_Call_Name_kw (ld_blt I hg hm (u := .builtin "sum") (by first | rfl | decide +kernel) ?_ (by first | decide +kernel | decide) (by first | decide +kernel | decide))
  rw [hse]
  refine PySem.callWith_builtin1 (wpAny_Call_method0_late hbase hline (thn (hd.run pins s σ H _ I h) fun v s1 ⟨x, H1, I1, r1, a, kvs, is, ex, ha, hv, q⟩ => ?_))
  subst ex
  obtain rfl : v = Value.ref a := r1
  obtain ⟨_, hsys, vs, rel, dof⟩ := (show ObjOk X.prog X.w H1 s1.heap a (.dK kvs) from ha.ok I1.hok)
  obtain ⟨ep, dat⟩ := dof.dictAt
  have dat' := dat
  obtain ⟨ob, es, ho, ex, hdat, hko, hpr, hnd⟩ := dat'
  refine ⟨"dict", "dict.values", F.plainAttrs_dict, F.slot_dict_values, F.type_dict_values, ⟨ob, ho, ex.1⟩, fun b e => ?_, Calls.callWith_builtin rfl (PySem.evalArgs_none ?_)⟩
  · cases e
    exact ⟨ob, ho, ex.2.1⟩
  refine call_meetsIn F.slot_dict_values ⟨ob, ho, ex.1⟩ F.entry_dict_values (F.args_dict_values_1 _) (meets_dict_values (mixKind X.prog X.w) a hsys) ⟨⟨vs, dof⟩, ?_⟩
  have k1 : ∀ b u, s1.heap.get? b = some u → (s1.heap.push { cls := .type "dict_values", data := .fields #[.ref a] }).get? b = some u := fun b u e => Heap.get?_push_of_some _ e
  have dat1 : (s1.heap.push { cls := .type "dict_values", data := .fields #[.ref a] }).DictAt (mixKind X.prog X.w) a vs ep := dat.keep k1
  have hlv : vs.length = is.length := by
    have e1 := congrArg List.length hv
    rw [List.length_map, List.length_map] at e1
    rw [← e1]
    exact (KV.length rel).symm
  have hval : ∀ (i : Nat) (v : Value), (∃ k, vs[i]? = some (k, v)) → ∃ t, v = Value.int (is.getD i 0) t := fun i v ⟨k, hk⟩ => by
    obtain ⟨x, h1, h2⟩ := KV.at' rel hk
    have e1 : (kvs.map (·.2))[i]? = some x := by rw [List.getElem?_map, h1] <;> rfl
    rw [hv, List.getElem?_map] at e1
    obtain ⟨j, hj, e2⟩ := Option.map_eq_some_iff.mp e1
    subst e2
    obtain ⟨t, e3⟩ := h2
    refine ⟨t, ?_⟩
    rw [e3, List.getD_eq_getElem?_getD, hj] <;> rfl
  refine call_sum_walkG (wpAny_pyIter_values (v := s1.heap.objs.size) (d := a) ⟨_, Heap.get?_push_size _ rfl, rfl, rfl⟩ dat1 ?_)
  have hlt : a < s1.heap.objs.size := Heap.lt_size ho
  have hsz : (s1.heap.push { cls := .type "dict_values", data := .fields #[.ref a] }).objs.size = s1.heap.objs.size + 1 := Heap.size_push _ _
  refine ⟨_, _, _, _, _, _, (fun i => is.getD i 0), rfl, Walks.dictValues (knd := mixKind X.prog X.w) (A := X.A.in1) (I.ok.hd hc) (s1.heap.push { cls := .type "dict_values", data := .fields #[.ref a] }).objs.size a (by rw [hsz]; exact Nat.ne_of_lt (Nat.lt_succ_of_lt hlt)) vs ep,
    ⟨⟨_, Heap.get?_push_size _ rfl, rfl, rfl⟩, dat1.keep fun b u e => Heap.get?_push_of_some _ e⟩, fun b hb => ?_, hval, fun h' tk t' hk => ?_⟩
  · show b < ((s1.heap.push _).push _).objs.size
    rw [Heap.size_push, Heap.size_push]
    rw [hsz] at hb
    rcases List.mem_cons.mp hb with e | hb
    · rw [e]
      exact Nat.lt_succ_self _
    · have e : b = a := List.mem_singleton.mp hb
      rw [e]
      exact Nat.lt_succ_of_lt (Nat.lt_succ_of_lt hlt)
  · rw [preSum_getD is _ (by omega), List.take_of_length_le (by omega)]
    refine ⟨.int _, H1, I1.kept (t' := tk) fun b u e => hk b u (fun hmem => ?_) (Heap.get?_push_of_some _ (k1 b u e)), ⟨t', rfl⟩, q⟩
    have e1 : b = (s1.heap.push { cls := .type "dict_values", data := .fields #[.ref a] }).objs.size := List.mem_singleton.mp hmem
    have e2 := Heap.lt_size e
    rw [hsz] at e1
    rw [e1] at e2
    exact absurd e2 (Nat.not_lt.mpr (Nat.le_succ _))
end
def litE (a : SE) : SE := fun ρ => (a ρ).bind fun x => match x.2 with
  | .fdc kvs => .ok (.own, .lst (itmD kvs))
  | .dic kvs => if noLs (kvs.map (·.2)) = true then .ok (.own, .lst (itmD kvs)) else .st
  | _ => .st
def svlE (a : SE) : SE := fun ρ => (a ρ).bind fun x => match x.2 with
  | .fdc kvs => R.of ((intsD (kvs.map (·.2))).map fun ns => ((Kd.own, D.int ns.sum) : KD))
  | .dic kvs => R.of ((intsD (kvs.map (·.2))).map fun ns => ((Kd.own, D.int ns.sum) : KD))
  | _ => .st
section
variable {X : Cx} {CA : String → Addr} {W : WX} {pos p apos cpos : Pos} {e : Expr} {sa : SE}
theorem items_rep {K : PySem.W.Frag} {H H' : Hp} : ∀ {kds : List (Key × D)} {kvs : List (Key × V)} {ts : List Addr}, RepK K H kds kvs [] → (∀ b o, H b = some o → H' b = some o) → Paired (fun (t : Addr) (q : Key × V) => H' t = some (.tup [kV q.1, q.2])) ts kvs → Reps K H' (itmD kds) (ts.map V.ref) [] := by
  intro kds kvs ts r s hp
  induction kds generalizing kvs ts with
  | nil =>
    cases r
    cases hp
    exact .nil
  | cons p kds ih =>
    generalize hg : ([] : List Addr) = g at r
    cases r with
    | @cons _ k d v f _ vs g1 r t =>
      obtain ⟨rfl, rfl⟩ := List.append_eq_nil_iff.mp hg.symm
      cases hp with
      | cons h1 h2 =>
        refine .cons (f := []) (g := []) (.tup h1 (.cons (f := []) (g := []) (kyD_rep k) (.cons (f := []) (g := []) (r.same s) .nil))) (ih t h2)
theorem RepK.ints {K : PySem.W.Frag} {H : Hp} {κ : Type} : ∀ {kds : List (κ × D)} {kvs : List (κ × V)} {f : List Addr} {is : List Int}, RepK K H kds kvs f → kds.map (·.2) = is.map D.int → kvs.map (·.2) = is.map V.int := by
  intro kds
  induction kds with
  | nil =>
    intro kvs f is r e
    cases r
    cases is with | nil => rfl | cons a b => cases e
  | cons p kds ih =>
    intro kvs f is r e
    cases r with
    | cons r t =>
      cases is with
      | nil => cases e
      | cons a b =>
        rw [List.map_cons, List.map_cons] at e
        injection e with h1 h2
        simp only at h1
        subst h1
        cases r
        rw [List.map_cons, List.map_cons, ih t h2]
theorem e_lit (hc : X.calm = true) (hm : X.mg "list" = none) (ha : PE X e (tE X.K CA W sa)) (hg : Gl X "list" := by rfl) (hv : bootBuiltins "list" = some (.type "list") := by decide +kernel) (hbase : attributeBase e "items" X.env (eval e X.env) = eval e X.env := by rfl) (hline : (apos.endLine == cpos.line) = true := by rfl)
    (hs : starEach [.Call (.Attribute e "items" apos) [] [] cpos] X.env = (false, eval (.Call (.Attribute e "items" apos) [] [] cpos) X.env) :: starEach [] X.env := by rfl) :
    PE X (.Call (.Name "list" p) [.Call (.Attribute e "items" apos) [] [] cpos] [] pos) (tE X.K CA W (litE sa)) := by
  refine peI (pe_listItemsR hc ha hg hm hv hbase hline hs) fun σ H Q ⟨A, H0, F, G, ρ, sr, h⟩ => ?_
  refine ⟨A, H0, F, G, ρ, sr, Post.bind h fun ⟨k, d⟩ h1 => ?_⟩
  intro v H1 f s r o
  have fin : ∀ {kds : List (Key × D)} {kvs : List (Key × V)} {a : Addr}, RepK X.K H1 kds kvs [] → Rd H1 a (.dK kvs) → v = .ref a → Cont X.K A H0 F H (.own, .lst (itmD kds)) Q → ∃ (d : Addr) (kvs : List (Key × V)), v = .ref d ∧ Rd H1 d (.dK kvs) ∧
      ∀ (H' : Hp) (p : Addr) (ts : List Addr), (∀ b o, H1 b = some o → H' b = some o) → H1 p = none → (∀ t ∈ ts, H1 t = none) → p ∉ ts → H' p = some (.lst (ts.map V.ref)) → Paired (fun (t : Addr) (q : Key × V) => H' t = some (.tup [kV q.1, q.2])) ts kvs → Q (.ref p) H' := fun {kds kvs a} rs hR ev q => by
    refine ⟨a, kvs, ev, hR, fun H' p ts s' np nt ni hp hpr => ?_⟩
    refine q (.ref p) H' [p] (s.trans s') (.lst hp (items_rep rs s' hpr)) ⟨by simp, fun b hb => ?_⟩
    rw [List.mem_singleton.mp hb]
    exact ⟨s.free np, ⟨by rw [hp]; trivial⟩⟩
  cases d with
  | fdc kds =>
    cases r with
    | @fdc a ob kvs _ q n rs => exact fin rs (.inr ⟨ob, q⟩) rfl h1
  | dic kds =>
    have h1 : Post X.K CA W σ H (if noLs (kds.map (·.2)) = true then (.ok (.own, .lst (itmD kds)) : R KD) else .st) fun kd => Cont X.K A H0 F H kd Q := h1
    by_cases hz : noLs (kds.map (·.2)) = true
    · rw [if_pos hz] at h1
      cases r with
      | @dic a kvs _ f1 q n rs =>
        have := rs.noLs' hz
        subst this
        exact fin rs (.of q) rfl h1
    · rw [if_neg hz] at h1; exact h1.elim
  | _ => exact h1.elim
theorem e_svl (hc : X.calm = true) (hm : X.mg "sum" = none) (ha : PE X e (tE X.K CA W sa)) (hg : Gl X "sum" := by rfl) (hbase : attributeBase e "values" X.env (eval e X.env) = eval e X.env := by rfl) (hline : (apos.endLine == cpos.line) = true := by rfl)
    (hse : starEach [Expr.Call (.Attribute e "values" apos) [] [] cpos] X.env = [(false, eval (Expr.Call (.Attribute e "values" apos) [] [] cpos) X.env)] := by rfl) :
    PE X (.Call (.Name "sum" p) [.Call (.Attribute e "values" apos) [] [] cpos] [] pos) (tE X.K CA W (svlE sa)) := by
  refine peI (pe_sumVals hc hg hm ha hbase hline hse) fun σ H Q ⟨A, H0, F, G, ρ, sr, h⟩ => ?_
  refine ⟨A, H0, F, G, ρ, sr, Post.bind h fun ⟨k, d⟩ h1 => ?_⟩
  intro v H1 f s r o
  cases d with
  | fdc kds =>
    obtain ⟨kd, e1, q⟩ := Post.of h1
    cases r with
    | @fdc a ob kvs _ hq n rs =>
      cases e2 : intsD (kds.map (·.2)) with
      | none => rw [e2] at e1; cases e1
      | some is =>
        rw [e2] at e1
        cases e1
        exact ⟨a, kvs, is, rfl, .inr ⟨ob, hq⟩, rs.ints (intsD_eq e2), q.atom s (.int _)⟩
  | dic kds =>
    obtain ⟨kd, e1, q⟩ := Post.of h1
    cases r with
    | @dic a kvs _ f1 hq n rs =>
      cases e2 : intsD (kds.map (·.2)) with
      | none => rw [e2] at e1; cases e1
      | some is =>
        rw [e2] at e1
        cases e1
        exact ⟨a, kvs, is, rfl, .of hq, rs.ints (intsD_eq e2), q.atom s (.int _)⟩
  | _ => exact h1.elim
end
/-! ### the ends of what changes its object -/
def retNI : SS := fun ρ => .ri ρ .own .non
def retP (a : SE) : SS := fun ρ => (a ρ).out ρ fun x => .ri ρ (nk x.1 x.2) x.2
/-- return of a name: what the slot owns goes out -/
def retW (i : Nat) : SS := fun ρ => match ρ[i]? with
  | some (.ow d) => if bosOk (ρ.set i .no) = true ∧ (ρ.all fun s => match s with
    | .bo is _ => !is.contains i
    | _ => true) = true then .ri (ρ.set i .no) .own d else .st
  | some (.bo _ d) => if noL d = true then .ri ρ .own d else .st
  | _ => .st
section
variable {X : Cx} {CA : String → Addr} {W : WX} {pos pos' p1 p2 p3 : Pos} {e o : Expr} {se so : SE}
theorem s_retP (he : PE X e (tE X.K CA W se)) : PS X (.Return (some e) pos) (tS X.K CA W (retP se)) := by
  refine psI (ps_ret he) fun D σ H ⟨A, H0, F, G, ρ, sr, h⟩ => ?_
  refine ⟨A, H0, F, G, ρ, sr, (lift h sr).imp fun ⟨k, d⟩ _ q v H' f s r o => ?_⟩
  exact q v σ H H' F f sr s r (KOk.nk r o)
end
section
variable {K : PySem.W.Frag} {A : Addr → Prop} {H0 H : Hp} {F : Nat → List Addr} {G : List (D × V)} {ρ : Env} {σ : L2.St}
/-- what slot i owns goes out of the state -/
theorem SR.lose {i : Nat} {d : D} (sr : SR K A H0 F G ρ σ H) (e : ρ[i]? = some (.ow d)) (hb : ∀ s ∈ ρ, ∀ is d', s = .bo is d' → i ∉ is) : SR K A H0 (updF F i []) G (ρ.set i .no) σ (hidH H (F i)) := by
  have hi : i < ρ.length := (List.getElem?_eq_some_iff.mp e).1
  have out : ∀ {b : Addr}, b ∉ F i → hidH H (F i) b = H b := fun {b} h => hidH_out h
  have nt : ∀ b ob, H b = some ob → IsT ob → (hidH H (F i)) b = some ob := fun b ob e t => by
    rw [out fun z => ?_]; exact e
    have := ((sr.own i).2 b z).2.m
    rw [e] at this
    cases ob <;> first | exact t.elim | exact this.elim
  have kp : ∀ {f : List Addr}, (∀ b ∈ f, b ∉ F i) → ∀ b ∈ f, ∀ ob, H b = some ob → (hidH H (F i)) b = some ob := fun {f} hf b hb ob e => by rw [out (hf b hb)]; exact e
  have shU : ∀ {b : Addr}, Sh A H0 F b → b ∉ F i ∧ Sh A H0 (updF F i []) b := fun {b} h => ⟨h.2 i, h.1, fun m hm => by
    by_cases z : m = i
    · subst z; rw [updF_same] at hm; cases hm
    · rw [updF_ne z] at hm; exact h.2 m hm⟩
  refine ⟨by rw [List.length_set]; exact sr.len, fun b ob eb => ?_, fun j => ?_, fun j m b hj hm => ?_, fun j d2 e2 => ?_, fun j is d2 e2 => ?_, fun p hp => ?_, fun j hj hn => ?_, fin_upd sr.fin⟩
  · rw [out fun z => by rw [((sr.own i).2 b z).1] at eb; cases eb]; exact sr.fr b ob eb
  · by_cases z : j = i
    · subst z; rw [updF_same]; exact ⟨List.nodup_nil, fun a ha => nomatch ha⟩
    · rw [updF_ne z]
      refine ⟨(sr.own j).1, fun b hb => ⟨((sr.own j).2 b hb).1, ?_⟩⟩
      have := ((sr.own j).2 b hb).2
      exact ⟨by rw [out fun y => z (sr.dis j i b hb y)]; exact this.m⟩
  · by_cases z : j = i
    · subst z; rw [updF_same] at hj; cases hj
    · by_cases y : m = i
      · subst y; rw [updF_same] at hm; cases hm
      · rw [updF_ne z] at hj; rw [updF_ne y] at hm; exact sr.dis j m b hj hm
  · by_cases z : i = j
    · subst z; rw [List.getElem?_set_self hi] at e2; cases e2
    · rw [List.getElem?_set_ne z] at e2
      obtain ⟨v, h1, h2⟩ := sr.slo j d2 e2
      rw [updF_ne (Ne.symm z)]
      exact ⟨v, h1, h2.frame nt (kp fun b hb y => z (sr.dis i j b y hb))⟩
  · by_cases z : i = j
    · subst z; rw [List.getElem?_set_self hi] at e2; cases e2
    · rw [List.getElem?_set_ne z] at e2
      obtain ⟨v, f, h1, h2, h3⟩ := sr.slb j is d2 e2
      have hni := hb _ (List.mem_of_getElem? e2) is d2 rfl
      have key : ∀ b ∈ f, b ∉ F i ∧ ((∃ m ∈ is, b ∈ updF F i [] m) ∨ Sh A H0 (updF F i []) b) := fun b hb => by
        rcases h3 b hb with ⟨m, hm, q⟩ | q
        · have hmi : m ≠ i := fun y => hni (y ▸ hm)
          exact ⟨fun y => hmi (sr.dis m i b q y), .inl ⟨m, hm, by rw [updF_ne hmi]; exact q⟩⟩
        · exact ⟨(shU q).1, .inr (shU q).2⟩
      exact ⟨v, f, h1, h2.frame nt (kp fun b hb => (key b hb).1), fun b hb => (key b hb).2⟩
  · obtain ⟨f, h1, h2⟩ := sr.gho p hp
    exact ⟨f, h1.frame nt (kp fun b hb => (shU (h2 b hb)).1), fun b hb => (shU (h2 b hb)).2⟩
  · rw [List.length_set] at hj
    by_cases z : i = j
    · subst z; rw [updF_same] at hn; exact absurd rfl hn
    · rw [updF_ne (Ne.symm z)] at hn
      obtain ⟨d2, q⟩ := sr.emp j hj hn
      exact ⟨d2, by rw [List.getElem?_set_ne z]; exact q⟩
end
section
variable {X : Cx} {CA : String → Addr} {W : WX} {pos pos' p1 p2 p3 : Pos} {e o : Expr} {se so : SE}
theorem s_retW (i : Nat) {x : Str} (hN : X.N[i]? = some x := by rfl) (hv : Vis X.env.scope x := by first | exact Or.inl rfl | exact Or.inr (Or.inl rfl) | exact Or.inr (Or.inr rfl)) (hd : (x == ("__debug__" : Str)) = false := by decide)
    (hcd : (x == ("__classdict__" : Str)) = false := by decide) : PS X (.Return (some (.Name x pos')) pos) (tS X.K CA W (retW i)) := by
  refine psI (ps_ret (pe_var hN hv hd hcd)) fun D σ H ⟨A, H0, F, G, ρ, sr, h⟩ => ?_
  have h : OutOk X.K CA W A H0 G D (retW i ρ) := h
  unfold retW at h
  cases e : ρ[i]? with
  | none => rw [e] at h; exact h.elim
  | some sl =>
    rw [e] at h
    cases sl with
    | no => exact h.elim
    | ow d =>
      obtain ⟨v, hv, r⟩ := sr.slo i d e
      have h : OutOk X.K CA W A H0 G D (if bosOk (ρ.set i .no) = true ∧ (ρ.all fun s => match s with
        | .bo is _ => !is.contains i
        | _ => true) = true then .ri (ρ.set i .no) .own d else .st) := h
      by_cases hc : bosOk (ρ.set i .no) = true ∧ (ρ.all fun s => match s with
        | .bo is _ => !is.contains i
        | _ => true) = true
      · rw [if_pos hc] at h
        have sr2 := sr.lose e fun s hs is d' es => by
          have := List.all_eq_true.mp hc.2 s hs
          subst es
          simpa using this
        exact ⟨v, hv, h v σ _ H _ (F i) sr2 (same_hid H (F i)) r ⟨(sr.own i).1, fun a ha => ⟨hidH_in ha, ((sr.own i).2 a ha).2⟩⟩⟩
      · rw [if_neg hc] at h; exact h.elim
    | bo is d =>
      obtain ⟨v, f, hv, r, b⟩ := sr.slb i is d e
      have h : OutOk X.K CA W A H0 G D (if noL d = true then .ri ρ .own d else .st) := h
      by_cases hz : noL d = true
      · rw [if_pos hz] at h
        have := r.noL hz
        subst this
        exact ⟨v, hv, h v σ H H F [] sr (Same.refl _) r (KOk.nil _)⟩
      · rw [if_neg hz] at h; exact h.elim
/-! ### e.append(a) of a list that nobody keeps -/
def tapS (a b : SE) : SS := fun ρ => (a ρ).out ρ fun x => match x with
  | (.own, .lst ds) => (b ρ).out ρ fun y => if okIn y.1 [y.2] = true ∧ ds.length < LIM then .nx ρ else .st
  | _ => .st
theorem s_tap (ho : PE X o (tE X.K CA W so)) (he : PE X e (tE X.K CA W se)) (hst : starEach [e] X.env = [(false, eval e X.env)] := by rfl) (hs : swapsWith (.Call (.Attribute o "append" p2) [e] [] p3) none pos.line X.env = pure false := by rfl)
    (hline : (p2.endLine == p3.line) = true := by rfl) (hbase : attributeBase o "append" X.env (eval o X.env) = eval o X.env := by rfl) (hfew : ((backTo p3 (starEach [e] X.env)).all (fun x => !x.1) && (backToKw p3 (keywordEach [] X.env)).all (fun x => x.1.isSome) && decide (([e] : List Expr).length + ([] : List Keyword).length + (if ([] : List Keyword).isEmpty then 0 else 1) < 30)) = true := by rfl) :
    PS X (.Expr (.Call (.Attribute o "append" p2) [e] [] p3) pos) (tS X.K CA W (tapS so se)) := by
  refine psI (ps_expr (pe_bm PySem.F.plainAttrs_list PySem.F.slot_list_append PySem.F.type_list_append mt_append ho (pa_cons he pa_nil hst) hbase hfew hline hst rfl) hs) fun D σ H ⟨A, H0, F, G, ρ, sr, h⟩ => ?_
  refine ⟨A, H0, F, G, ρ, sr, (lift h sr).imp fun ⟨k, d⟩ _ q v H1 f s1 r1 o1 => ?_⟩
  cases k with
  | bor is => exact q.elim
  | own =>
    cases d with
    | lst ds =>
      cases r1 with
      | @lst a vs _ f0 hl q0 =>
        refine ⟨.inl ⟨rfl, _, .of hl⟩, A, H0, F, G, ρ, sr.same s1, (lift q (sr.same s1)).imp fun ⟨k2, d2⟩ _ q2 y H2 f2 s2 r2 o2 => ?_⟩
        have q2 : OutOk X.K CA W A H0 G D (if okIn k2 [d2] = true ∧ ds.length < LIM then .nx ρ else .st) := q2
        by_cases hc : okIn k2 [d2] = true ∧ ds.length < LIM
        · rw [if_pos hc] at q2
          have hl2 := s2 _ _ hl
          have aF := (o1.2 a (by simp)).1
          refine ⟨a, vs, y, rfl, rfl, hl2, by rw [← lim_eq, ← q0.length]; exact hc.2, ?_⟩
          refine q2 σ _ F (sr.same fun b ob e => ?_)
          have : b ≠ a := fun z => by subst z; rw [aF] at e; cases e
          rw [upd_ne this]; exact s2 _ _ (s1 _ _ e)
        · rw [if_neg hc] at q2; exact q2.elim
    | _ => exact q.elim
end
end Cz
set_option maxHeartbeats 3200000
/-! Cz27: len(set(..)) of texts. -/
namespace Cz
open PySem PySem.Spec PyProof.Rows L2
section
variable {κ : Type} [DecidableEq κ]
def ddK (val : Nat → κ) : Nat → List κ
  | 0 => []
  | i + 1 => if val i ∈ ddK val i then ddK val i else ddK val i ++ [val i]
theorem ddK_le (val : Nat → κ) : ∀ i, (ddK val i).length ≤ i
  | 0 => Nat.le_refl _
  | i + 1 => by
    have := ddK_le val i
    unfold ddK
    split
    · omega
    · simp; omega
theorem ddK_mem (val : Nat → κ) (k : κ) : ∀ i, k ∈ ddK val i ↔ ∃ j, j < i ∧ val j = k
  | 0 => by simp [ddK]
  | i + 1 => by
    have ih := ddK_mem val k i
    unfold ddK
    split
    · rename_i h
      rw [ih]
      refine ⟨fun ⟨j, h1, h2⟩ => ⟨j, by omega, h2⟩, fun ⟨j, h1, h2⟩ => ?_⟩
      by_cases e : j = i
      · subst e; subst h2; exact (ddK_mem val _ j).mp h
      · exact ⟨j, by omega, h2⟩
    · rw [List.mem_append, ih, List.mem_singleton]
      refine ⟨fun h => h.elim (fun ⟨j, h1, h2⟩ => ⟨j, by omega, h2⟩) fun e => ⟨i, by omega, e.symm⟩, fun ⟨j, h1, h2⟩ => ?_⟩
      by_cases e : j = i
      · subst e; exact .inr h2.symm
      · exact .inl ⟨j, by omega, h2⟩
theorem ddK_nodup (val : Nat → κ) : ∀ i, (ddK val i).Nodup
  | 0 => List.nodup_nil
  | i + 1 => by
    have ih := ddK_nodup val i
    unfold ddK
    split
    · exact ih
    · rename_i h
      exact List.nodup_append.mpr ⟨ih, by simp, fun a ha b hb e => h (by
        have : b = val i := by simpa using hb
        rw [← this, ← e]; exact ha)⟩
theorem setCongrK {prog : Program} {w : World} {knd : KeyKind prog w κ} {h : Heap} {a : Addr} {S S' : κ → Bool} {n n' : Nat} (hS : h.SetOf knd a S n) (e : S = S') (en : n = n') : h.SetOf knd a S' n' := by subst e; subst en; exact hS
end
section
variable {prog : Program} {w : World} {κ : Type} [DecidableEq κ] (knd : KeyKind prog w κ) (val : Nat → κ) {A : Around} {R : Result → Shared → Prop} {I : Addr} {fp wr : List Addr} {G : Array GenState → Array GenState → Prop} {n : Nat} {P : Nat → Value → Prop} {St : Nat → Shared → Prop}
theorem setLoopK (W : WalksS prog w A.in1 I fp wr G n P St) (S : Addr) (hSf : S ∉ fp)
    (hval : ∀ i v, P i v → knd.is (val i) v = true ∧ v.scannable = true) (hb : n + 1 < scanBound) :
    ∀ (k i : Nat) (s : Shared), n - i = k → i ≤ n → St i s →
      s.heap.SetOf knd S (fun k' => decide (k' ∈ ddK val i)) (ddK val i).length →
      (∀ s', Moved (S :: wr) G s s' → s'.heap.SetOf knd S (fun k' => decide (k' ∈ ddK val n)) (ddK val n).length → R (.ok (.ret .none)) s') →
      codeAny (model prog w) A (.builtin "set.update.loop" ⟨[.ref S, .ref I], []⟩) R s := by
  have hSw : S ∉ wr := fun h => hSf (W.sub _ h)
  have hsub : ∀ b ∈ wr, b ∈ S :: wr := fun b hb => List.mem_cons_of_mem _ hb
  intro k
  induction k with
  | zero =>
    intro i s hk hi hst hS hR
    have hin : i = n := by omega
    subst hin
    refine codeAny_builtin PyProof.Rows.F.entry_set_update_loop ?_
    rw [Around.under_plainId PyProof.Rows.F.plain_set_update_loop _]
    show wpAny _ A.in1 (pyNext (.ref I) >>= _) _ _ s
    refine wpAny_bind (W.done s _ _ hst fun s' hm => ?_)
    show wpAny _ A.in1 (ret Value.none) _ _ s'
    exact wpAny_pure (hR s' (hm.mono hsub) (by
      obtain ⟨o, es, ep, t, ho, rest⟩ := hS
      exact ⟨o, es, ep, t, hm.heap S _ hSw ho, rest⟩))
  | succ k ih =>
    intro i s hk hi hst hS hR
    have hlt : i < n := by omega
    refine codeAny_builtin PyProof.Rows.F.entry_set_update_loop ?_
    rw [Around.under_plainId PyProof.Rows.F.plain_set_update_loop _]
    show wpAny _ A.in1 (pyNext (.ref I) >>= _) _ _ s
    refine wpAny_bind (W.item i s _ _ hlt hst fun v s' hP hst' hm => ?_)
    obtain ⟨hv, hsc⟩ := hval i v hP
    have hS' : s'.heap.SetOf knd S (fun k' => decide (k' ∈ ddK val i)) (ddK val i).length := by
      obtain ⟨o, es, ep, tb, ho, rest⟩ := hS
      exact ⟨o, es, ep, tb, hm.heap S _ hSw ho, rest⟩
    show wpAny _ A.in1 (holding [v] (setAdd S v) >>= _) _ _ s'
    refine wpAny_bind (wpAny_holding ?_)
    unfold setAdd
    refine wpAny_holding ?_
    refine wpAny_bind (knd.pyHash (k := val i) hv ?_)
    have hroom : (ddK val i).length + 1 < scanBound := by have := ddK_le val i; omega
    refine wpAny_setAddHashed_of (knd := knd) (s := { s' with toks := s'.toks + 1 }) hv hsc hS' hroom fun h' hsb hS2 => ?_
    have hSi : h'.SetOf knd S (fun k' => decide (k' ∈ ddK val (i + 1))) (ddK val (i + 1)).length :=
      setCongrK hS2 (funext fun k' => by
        show (decide (k' ∈ ddK val i) || decide (k' = val i)) = decide (k' ∈ (if val i ∈ ddK val i then ddK val i else ddK val i ++ [val i]))
        split
        · rename_i h
          by_cases e : k' = val i
          · subst e; simp [h]
          · simp [e]
        · simp) (by
        show (if decide (val i ∈ ddK val i) = true then _ else _) = (if val i ∈ ddK val i then ddK val i else ddK val i ++ [val i]).length
        by_cases h : val i ∈ ddK val i <;> simp [h])
    refine wpAny_pure ⟨plainId_quiet PyProof.Rows.F.plain_set_update_loop _, ih (i + 1) _ (by omega) hlt (W.frame _ s' _ _ hst' (Nat.le_succ _) fun b hb o e => ?_) hSi fun s'' hm'' hS'' => ?_⟩
    · rw [hsb.2 b (fun h : b = S => hSf (by rw [← h]; exact hb))]; exact e
    · refine hR s'' (Moved.trans W.gtrans ((hm.mono hsub).then_heap (Nat.le_succ _) fun b o hb e => ?_) hm'') hS''
      rw [hsb.2 b (fun h : b = S => hb (by rw [h]; exact List.mem_cons_self))]; exact e
end
end Cz
namespace PySem
open PySem.Spec PyProof.Rows Cz
section
variable {prog : Program} {w : World} {A : Around} {E : Value → Shared → Prop} {s : Shared}
set_option maxHeartbeats 3200000 in
theorem callSetK {κ : Type} [DecidableEq κ] (knd : KeyKind prog w κ) (val : Nat → κ) {l : Addr} {items : Array Value} {Q : Value → Shared → Prop}
    (hh : A.handled = none) (hl : s.heap.IsList l items) (hval : ∀ (i : Nat) (v : Value), items[i]? = some v → knd.is (val i) v = true ∧ v.scannable = true) (hb : items.size + 1 < scanBound)
    (h : ∀ (h' : Heap) (tk : Nat), h'.SetOf knd s.heap.objs.size (fun k' => decide (k' ∈ ddK val items.size)) (ddK val items.size).length →
      (∀ b o, b < s.heap.objs.size → s.heap.get? b = some o → h'.get? b = some o) → Q (.ref s.heap.objs.size) { s with heap := h', toks := tk }) :
    wpAny (model prog w) A (call (.type "set") [.ref l]) Q E s := by
  obtain ⟨c, tl, hmro⟩ := PySem.F.called_set.mro
  have hmade := PySem.F.called_set.made
  have hsub := PySem.F.called_set.sub
  refine wpAny_call (codeAny_of_tree ?_)
  show wpAny _ _ (callAny (.type "set") _) _ _ _
  refine wpAny_pure ⟨Code.quiet_builtin _ (by decide +kernel), codeAny_builtin PySem.F.entry_type_call ?_⟩
  rw [Around.under_plain (weight_type_call_type "set" [.ref l] []) rfl]
  have h1 := PySem.F.called_set.notType
  have h2 := PySem.F.called_set.canCreate
  have hct := PySem.F.typeCall_set_1 (.ref l)
  repeat (any_goals (first | assumption | wp_step))
  refine codeAny_mono (code_set_new_1 (.ref l) (E := E) (Q₁ := fun obj s₁ => ∃ led : Bool, obj = .ref s.heap.objs.size ∧ s₁ = { s with heap := s.heap.push { cls := .type "set", dict := none, data := .set #[] 0 (.fresh 0 0 led) } }) fun led => ⟨led, rfl, rfl⟩) fun r s₁ hr => ?_
  cases r with
  | error e => exact hr
  | ok fl =>
    cases fl with
    | ret obj =>
      obtain ⟨led, rfl, rfl⟩ := hr
      have hS : (s.heap.push { cls := .type "set", dict := none, data := .set #[] 0 (.fresh 0 0 led) }).get? s.heap.objs.size = some { cls := .type "set", dict := none, data := .set #[] 0 (.fresh 0 0 led) } := Heap.get?_push_size _ rfl
      have hT : Shared.TypeIs { s with heap := s.heap.push { cls := .type "set", dict := none, data := .set #[] 0 (.fresh 0 0 led) } } (.ref s.heap.objs.size) "set" := ⟨_, hS, rfl⟩
      have hli := PySem.F.called_set.init.lookup
      have hbi := PySem.F.called_set.init.bind (.ref s.heap.objs.size)
      repeat (any_goals (first | assumption | wp_step))
      refine codeAny_mono (codeAny_call_builtin (R := wants (fun r s₂ => r = .none ∧ ∃ h' tk, s₂ = { s with heap := h', toks := tk } ∧
          h'.SetOf knd s.heap.objs.size (fun k' => decide (k' ∈ ddK val items.size)) (ddK val items.size).length ∧
          (∀ b o, b < s.heap.objs.size → s.heap.get? b = some o → h'.get? b = some o)) E) PySem.F.called_set.init.plain PySem.F.entry_set_init (check_set_init_1 hT ?_)) fun r₂ s₂ hr₂ => ?_
      · obtain ⟨ol, hol, hcl, nl, hdl⟩ := hl
        obtain ⟨ocls, odict, odata, oslots⟩ := ol
        simp only at hcl hdl
        subst hcl; subst hdl
        have hol' : (s.heap.push { cls := .type "set", dict := none, data := .set #[] 0 (.fresh 0 0 led) }).get? l = some { cls := .type "list", dict := odict, data := .seq items nl, slots := oslots } := Heap.get?_push_of_some _ hol
        have hsls := PySem.F.sub_list_set
        have hslf := PySem.F.sub_list_frozenset
        have hne : (Value.type "list" == Value.type "dict") = false := by decide
        have hl1 : (s.heap.push { cls := .type "set", dict := none, data := .set #[] 0 (.fresh 0 0 led) }).IsList l items := ⟨_, hol', rfl, nl, rfl⟩
        unfold Builtin.«set.__init__» noKeywords Builtin.Frozenset.updateFrom
        generalize hPI : pyIter = PI
        wp_walk
        subst hPI
        refine wpAny_pyIter_list hl1 ?_
        refine wpAny_bind (wpAny_runValue ?_)
        have hlS : l < s.heap.objs.size := Heap.lt_size hol
        have hh3 : A.in1.in1.in1.handled = none := by simp [hh]
        have hneI : l ≠ (s.heap.push { cls := .type "set", dict := none, data := .set #[] 0 (.fresh 0 0 led) }).objs.size := by
          rw [Heap.size_push]; exact Nat.ne_of_lt (Nat.lt_succ_of_lt hlS)
        have hSf : s.heap.objs.size ∉ [(s.heap.push { cls := .type "set", dict := none, data := .set #[] 0 (.fresh 0 0 led) }).objs.size, l] := by
          rw [Heap.size_push]; simp only [List.mem_cons, List.mem_singleton, List.not_mem_nil, or_false, not_or]
          exact ⟨Nat.ne_of_lt (Nat.lt_succ_self _), Nat.ne_of_gt hlS⟩
        refine setLoopK knd val ((Walks.list hh3 _ l hneI items).toS) s.heap.objs.size
          hSf hval hb (items.size - 0) 0 _ (by omega) (Nat.zero_le _)
          ⟨⟨_, Heap.get?_push_size _ rfl, rfl, rfl⟩, (hl1.push _)⟩ ?hS0 ?hR
        case hS0 =>
          have hget : ((s.heap.push { cls := .type "set", dict := none, data := .set #[] 0 (.fresh 0 0 led) }).push { cls := .type "list_iterator", data := .fields #[.ref l, .int 0 0] }).get? s.heap.objs.size
              = some { cls := .type "set", dict := none, data := .set #[] 0 (.fresh 0 0 led) } := Heap.get?_push_of_some _ hS
          exact setCongrK ((PyProof.Rows.setObjOf_fresh (knd := knd) led).setOf hget (by unfold scanBound; omega)) (funext fun _ => by simp [ddK]) rfl
        case hR =>
          intro s' hm hS'
          obtain ⟨h', g', d', tk', os'⟩ := s'
          have eg : g' = s.gens := hm.gens
          have ed : d' = s.drawn := hm.drawn
          have eo : os' = s.os := hm.os
          subst eg; subst ed; subst eo
          show wpAny _ _ _ _ _ _
          refine wpAny_pure ?_
          show wpAny _ _ (ret Value.none) _ _ _
          refine wpAny_pure ⟨rfl, h', tk', rfl, hS', fun b o hb e => ?_⟩
          have hb1 : b ≠ s.heap.objs.size := Nat.ne_of_lt hb
          have hb2 : b ≠ (s.heap.push { cls := .type "set", dict := none, data := .set #[] 0 (.fresh 0 0 led) }).objs.size := by
            rw [Heap.size_push]; exact Nat.ne_of_lt (Nat.lt_succ_of_lt hb)
          exact hm.heap b o (by simp only [List.mem_cons, List.mem_singleton, List.not_mem_nil, or_false, not_or]; exact ⟨hb1, hb2⟩) (Heap.get?_push_of_some _ (Heap.get?_push_of_some _ e))
      · cases r₂ with
        | error e => exact hr₂
        | ok fl₂ =>
          cases fl₂ with
          | ret r =>
            obtain ⟨rfl, h', tk, rfl, hS', hk'⟩ := hr₂
            repeat (any_goals (first | assumption | wp_step))
            exact h _ _ hS' hk'
          | _ => exact hr₂.elim
    | _ => exact hr.elim
end
end PySem
namespace Cz
open PySem PySem.Spec PyProof.Rows L2
def ddS (xs : List Str) : List Str := ddK (fun i => xs.getD i Str.empty) xs.length
theorem ddS_mem (xs : List Str) (k : Str) : k ∈ ddS xs ↔ k ∈ xs := by
  unfold ddS
  rw [ddK_mem]
  refine ⟨fun ⟨j, h1, h2⟩ => ?_, fun h => ?_⟩
  · subst h2; simp [List.getD, h1]
  · obtain ⟨j, h1, h2⟩ := List.getElem_of_mem h
    exact ⟨j, h1, by simp [List.getD, h1, h2]⟩
theorem ddS_nodup (xs : List Str) : (ddS xs).Nodup := ddK_nodup _ _
theorem ddS_le (xs : List Str) : (ddS xs).length ≤ xs.length := ddK_le _ _
theorem ddS_lt (xs : List Str) : (ddS xs).length < xs.length ↔ ¬ xs.Nodup := by
  refine ⟨fun h n => ?_, fun h => ?_⟩
  · have := (ddS_nodup xs).length_le_of_subset (l₂ := xs) (fun k hk => (ddS_mem xs k).mp hk)
    have h2 := n.length_le_of_subset (l₂ := ddS xs) (fun k hk => (ddS_mem xs k).mpr hk)
    omega
  · refine Nat.lt_of_le_of_ne (ddS_le xs) fun e => h ?_
    have go : ∀ i, i ≤ xs.length → (ddK (fun i => xs.getD i Str.empty) i).length = i → ddK (fun i => xs.getD i Str.empty) i = xs.take i := by
      intro i
      induction i with
      | zero => intro _ _; rfl
      | succ i ih =>
        intro hi e
        have hl := ddK_le (fun i => xs.getD i Str.empty) i
        unfold ddK at e ⊢
        split
        · rename_i hm; rw [if_pos hm] at e; omega
        · rename_i hm
          rw [if_neg hm] at e
          simp at e
          rw [ih (by omega) e, List.take_add_one, List.getElem?_eq_getElem (by omega)]
          simp [List.getD, show i < xs.length by omega]
    have := go xs.length (Nat.le_refl _) e
    rw [List.take_length] at this
    rw [← this]; exact ddK_nodup _ _
def lsetSE (a : SE) : SE := fun ρ => (a ρ).bind fun x => match x.2 with
  | .lst ds => (match strsD ds with
    | some xs => if xs.length ≤ 1000 then .ok (.own, .int (ddS xs).length) else .st
    | none => .st)
  | _ => .st
def tLsetS (K : PySem.W.Frag) (ta : TE) : TE := fun σ H Q => ta σ H fun x H1 => ∃ (l : Addr) (xs : List Str), x = .ref l ∧ SqL K H1 l (xs.map V.str) ∧ xs.length ≤ 1000 ∧ Q (.int (ddS xs).length) H1
section
variable {X : Cx} {CA : String → Addr} {W : WX} {pos p p2 q : Pos} {a : Expr} {sa : SE}
theorem pe_lsetS {ta : TE} (hc : X.calm = true) (hg : Gl X "len") (hm : X.mg "len" = none) (hg2 : Gl X "set") (hm2 : X.mg "set" = none) (ha : PE X a ta)
    (na : starEach [a] X.env = (false, eval a X.env) :: starEach [] X.env := by rfl) : PE X (.Call (.Name "len" p) [.Call (.Name "set" p2) [a] [] q] [] pos) (tLsetS X.K ta) := by
  refine ⟨fun pins s σ H Q I h => ?_⟩
  refine Call_ (ld_blt I hg hm PySem.boot_len ?_)
  refine PyProof.Rows.callWith_builtin1 (PyProof.Rows.args_cons ?_ rfl) rfl rfl
  refine Call_ (ld_blt I hg2 hm2 PyProof.Rows.boot_set ?_)
  refine PyProof.Rows.callWith_type1 (PyProof.Rows.args_cons (thn (ha.run pins s σ H _ I h) fun v s1 ⟨x, H1, I1, r1, q1⟩ => PyProof.Rows.args_nil ?_) na) na rfl
  obtain ⟨l, xs, rfl, hq, h1, q1⟩ := q1
  cases r1
  obtain ⟨its, r, pl, hz⟩ := I1.list hq
  have hl : its.toArray.size = xs.length := by rw [List.size_toArray, ← r.length, List.length_map]
  refine callSetK (PySem.strKind X.prog X.w) (fun i => xs.getD i Str.empty) (I1.ok.hd hc) pl.isList (fun i v hv => ?_) (by unfold scanBound; omega) fun h' tk hS hk => ?_
  · obtain ⟨t, rfl⟩ := SS.strs_at (L2.strsAre_of r) i v (by simpa using hv)
    exact ⟨by simp [PySem.strKind, Value.isStrOf], rfl⟩
  rw [hl] at hS
  refine PyProof.Rows.args_nil ?_
  obtain ⟨o, es, ep, t, ho, hex, hd, _, _, hb, hf, hn⟩ := hS
  have I2 : Inv X pins σ H1 { s1 with heap := h', toks := tk } := I1.kept fun b o e => hk b o (Heap.lt_size e) e
  have hbb : es.size < 2 ^ 63 := by unfold scanBound at hb; omega
  refine call_len_set ho hex hd hf (by exact_mod_cast hbb) ⟨.int (ddS xs).length, H1, I2.tok _, ⟨_, by rw [hn]; rfl⟩, q1⟩
theorem e_lsetS (hc : X.calm = true) (hm : X.mg "len" = none) (hm2 : X.mg "set" = none) (ha : PE X a (tE X.K CA W sa)) (hg : Gl X "len" := by rfl) (hg2 : Gl X "set" := by rfl)
    (na : starEach [a] X.env = (false, eval a X.env) :: starEach [] X.env := by rfl) : PE X (.Call (.Name "len" p) [.Call (.Name "set" p2) [a] [] q] [] pos) (tE X.K CA W (lsetSE sa)) := by
  refine peI (pe_lsetS hc hg hm hg2 hm2 ha na) fun σ H Q ⟨A, H0, F, G, ρ, sr, h⟩ => ?_
  refine ⟨A, H0, F, G, ρ, sr, h.bind fun ⟨k, d⟩ h1 => ?_⟩
  intro v H1 f s1 r o
  cases d with
  | lst ds =>
    simp only at h1
    cases e1 : strsD ds with
    | none => rw [e1] at h1; exact h1.elim
    | some xs =>
      rw [e1] at h1
      simp only at h1
      split at h1
      · rename_i hz
        have ed := strsD_eq e1
        subst ed
        obtain ⟨a, ws, g', rfl, t, q, _, _⟩ := r.lstI
        have e2 := q.strs_inv
        subst e2
        exact ⟨a, xs, rfl, t, hz, Cont.atom h1 s1 (.int _)⟩
      · exact h1.elim
  | _ => exact h1.elim
end
end Cz
set_option maxHeartbeats 2000000
/-! Cz28: a call of a def that an expression tells. -/
namespace Cz
open PySem PySem.Spec PyProof.Rows L2
def callXd (cs : List (String × Fn)) (s : SA) (x : D) : SE := fun ρ => match x with
  | .fn y => (match cs.lookup y with
    | some fn => callE fn s [] ρ
    | none => .st)
  | _ => .st
/-- f(e, ..), f an expression that tells one of these defs -/
def callX (b : SE) (cs : List (String × Fn)) (s : SA) : SE := fun ρ => (b ρ).bind fun kd => callXd cs s kd.2 ρ
def stS : SS := fun _ => .st
section
variable {X : Cx} {CA : String → Addr} {W : WX} {pos p : Pos} {g e : Expr} {es : List Expr} {b : SE} {s : SA} {cs : List (String × Fn)} {k : Nat}
theorem e_callX (tk : Takes X W) (hr : Room k X.A) (hcs : ∀ x fn, cs.lookup x = some fn → (∃ k', k' ≤ k ∧ FnIs X CA fn k' x []) ∧ FnV X.K X.mg x) (hb : PE X g (tE X.K CA W b)) (ha : PA X (e :: es) (tA X.K CA W s))
    (ht : eval (.Call g (e :: es) [] pos) X.env = (do
      let fv ← eval g X.env
      callWith pos fv [] (backTo pos (starEach (e :: es) X.env)) (backToKw pos (keywordEach [] X.env))) := by rfl)
    (he : starEach (e :: es) X.env = (false, eval e X.env) :: starEach es X.env := by rfl) (hpl : (backTo pos (starEach es X.env)).any (·.1) = false := by rfl) : PE X (.Call g (e :: es) [] pos) (tE X.K CA W (callX b cs s)) := by
  refine ⟨fun pins st σ H Q I h => ?_⟩
  obtain ⟨A, H0, F, G, ρ, sr, h⟩ := h
  have h : Post X.K CA W σ H ((b ρ).bind fun kd => callXd cs s kd.2 ρ) fun kd => Cont X.K A H0 F H kd Q := h
  rw [ht]
  refine wpAny_bind ?_
  refine thn (hb.run pins st σ H (fun v H1 => ∃ y fn f, v = .ref f ∧ cs.lookup y = some fn ∧ X.mg (Str.ofString y) = some (.ref f) ∧ Same H H1 ∧ Post X.K CA W σ H1 (callE fn s [] ρ) fun kd => Cont X.K A H0 F H kd Q) I ⟨A, H0, F, G, ρ, sr, h.bind fun kd h1 => ?_⟩) fun u s1 ⟨v, H1, I1, r1, q1⟩ => ?_
  · intro v H1 f1 s1 r1 o1
    obtain ⟨k0, d⟩ := kd
    cases d with
    | fn y =>
      have h1 : Post X.K CA W σ H (callXd cs s (.fn y) ρ) fun kd => Cont X.K A H0 F H kd Q := h1
      unfold callXd at h1
      simp only at h1
      cases hl : cs.lookup y with
      | none => rw [hl] at h1; exact h1.elim
      | some fn =>
        rw [hl] at h1
        obtain ⟨_, hV⟩ := hcs y fn hl
        obtain ⟨f', hm', hk'⟩ := hV.is
        cases r1 with
        | fn q => rw [hk'] at q; cases q; exact ⟨y, fn, f', rfl, hl, hm', s1, h1.later s1⟩
    | _ => exact h1.elim
  · obtain ⟨y, fn, f', rfl, hl, hm', s0, h1⟩ := q1
    obtain ⟨⟨k', hkk, hf⟩, _⟩ := hcs y fn hl
    obtain ⟨f, fd, ps, dvs, ds, hm, Fn, hk, hb, hd, hdd, hz⟩ := hf.is
    have ef : f' = f := by rw [hm] at hm'; cases hm'; rfl
    subst ef
    cases r1
    have ht : tA X.K CA W s σ H1 fun vs H2 => spF X.K CA fn ps.length (vs ++ dvs) H2 Q (fun cls d H' => W cls d σ H') := by
      refine ⟨A, H0, F, G, ρ, sr.same s0, Post.bind h1 fun xs h1 => ?_⟩
      intro vs H2 f1 s1 r o
      refine call_ok sr (s0.trans s1) r (o.wide s0 (Same.refl _)) (hdd H2) ?_ (h1.later s1)
      have r2 := r.app (hdd H2)
      rw [← r2.length]
      refine hz _ fun z => ?_
      rw [z] at h1
      exact h1
    refine PySem.W.callWith_K (h₀ := X.base) I1.ok.mod.kin hk (thn (ha.run pos pins s1 σ _ _ I1 ht) fun us s2 ⟨vs, H2, I2, r, q⟩ => ⟨I2.kIn, ?_⟩) he hpl
    exact run_fnSD (E := fun σ cls d H' => W cls d σ H') Fn (hr.mono hkk) hb hd (passAt tk σ) I2 r q
end
end Cz
set_option maxHeartbeats 2000000
/-! Cz29: a tuple unpacked whose first thing is taken over. -/
namespace Cz
open PySem PySem.Spec PyProof.Rows L2
/-- x, y, .. = e, e a new tuple: x takes what lies first; the others hold no list -/
def tgF (i : Nat) (u : Tgts) : Tgt := fun k d ρ => match k, d with
  | .own, .tup (d0 :: ds) => if noLs ds = true then u [] ds (ρ.set i (mkS .own d0)) else none
  | _, _ => none
def tGs1 (K : PySem.W.Frag) (sl : List Nat) (i : Nat) (u : Tgts) : TGs := fun vs σ H Q => ∃ A H0 Hb F G ρ d0 ds f, SR K A H0 F G ρ σ Hb ∧ Same Hb H ∧ Reps K H (d0 :: ds) vs f ∧ KOk A H0 F Hb H .own f ∧ noLs ds = true ∧
  match u [] ds (ρ.set i (mkS .own d0)) with
  | some ρ' => ∀ σ' F', TP K A H0 Hb H F F' G ρ' σ σ' sl false → Q σ' H
  | none => False
section
variable {X : Cx} {pos : Pos}
theorem gs_own {e : Expr} {es : List Expr} {u : Tgts} {i : Nat} {sl' : List Nat} (h1 : PG X e (tG X.K [i] (tgN i))) (h2 : PGs X es (tGs X.K sl' u))
    (hs : (assignEach (e :: es) X.env).map (·.2) = assign e X.env :: (assignEach es X.env).map (·.2) := by rfl) : PGs X (e :: es) (tGs1 X.K ([i] ++ sl') i u) := by
  refine pgsI (pgs_cons h1 h2 hs) fun vs σ H Q ⟨A, H0, Hb, F, G, ρ, d0, ds, f, sr, s, r, o, n, h⟩ => ?_
  cases r with
  | @cons d v f1 ds vs f2 r rr =>
    have z2 : f2 = [] := rr.noL n
    subst z2
    refine ⟨_, _, rfl, A, H0, Hb, F, G, ρ, .own, d0, f1, sr, s, r, o.sub (fun a ha => List.mem_append_left _ ha) (fun hn => (List.nodup_append.mp hn).1), ?_⟩
    intro σ1 F1 p1
    refine ⟨A, H0, F1, G, _, [], ds, [], p1.sr, rr, (fun a ha => nomatch ha), ?_⟩
    cases hu : u [] ds (ρ.set i (mkS .own d0)) with
    | none => rw [hu] at h; exact h.elim
    | some ρ2 =>
      rw [hu] at h
      intro σ2 F2 p2
      refine h σ2 F2 ⟨p2.sr, fun js g hg hb => p2.tr js g (fun a ha z => hg a ha (s.free z)) (p1.tr js g hg hb), p2.len.trans p1.len, fun j hj => ?_, fun z => nomatch z⟩
      have hj1 : j ∉ [i] := fun z => hj (List.mem_append_left _ z)
      have hj2 : j ∉ sl' := fun z => hj (List.mem_append_right _ z)
      exact ⟨(p2.out j hj2).1.trans (p1.out j hj1).1, (p2.out j hj2).2.trans (p1.out j hj1).2⟩
theorem g_tupF {es : List Expr} {k : Nat} {u : Tgts} {n i : Nat} {sl : List Nat} (hc : X.calm = true) (hl : TgLen u n) (h : PGs X es (tGs1 X.K sl i u))
    (hn : (assignEach es X.env).length = n + 1 := by rfl) (hst : (assignEach es X.env).findIdx? (·.1) = none := by rfl) : PG X (.Tuple es k pos) (tG X.K sl (tgF i u)) := by
  refine pgI (pg_tupL hc h hn hst) fun v σ H Q ⟨A, H0, Hb, F, G, ρ, kk, d, f, sr, s, r, o, q⟩ => ?_
  cases kk with
  | bor _ => exact q.elim
  | own =>
    cases d with
    | tup ds =>
      cases ds with
      | nil => exact q.elim
      | cons d0 ds =>
        have q : match (if noLs ds = true then u [] ds (ρ.set i (mkS .own d0)) else none) with
          | some ρ' => ∀ σ' F', TP X.K A H0 Hb H F F' G ρ' σ σ' sl false → Q σ' H
          | none => False := q
        split at q
        · rename_i ρ1 e
          split at e
          · rename_i nl
            obtain ⟨a, vs, rfl, t1, q1⟩ := r.tupI
            refine ⟨a, vs, rfl, .inl (.of t1), by rw [← q1.length, List.length_cons, hl _ _ _ (by rw [e]; exact fun z => nomatch z)], A, H0, Hb, F, G, ρ, d0, ds, f, sr, s, q1, o, nl, ?_⟩
            rw [e]
            exact q
          · cases e
        · exact q.elim
    | _ => exact q.elim
end
end Cz
set_option maxHeartbeats 2000000
/-! Cz30: how often a text stands in a list; dict(pairs). -/
namespace Cz
open PySem PySem.Spec PyProof.Rows L2
/-! ### list.count of texts -/
def eqkS (k : Str) (v : Value) : Bool := match v with
  | .str y _ => y.cps.toList == k.cps.toList
  | _ => false
theorem eqkS_gives {k : Str} {t : Tok} : ∀ {us : List Value} {ys : List Str}, Vals (ys.map V.str) us → ∀ y ∈ us, MeetsSeq.EqGives y (.str k t) (eqkS k y)
  | _, [], .nil => fun y hy => by cases hy
  | _, z :: ys, .cons r h => fun y hy => by
    obtain ⟨t', rfl⟩ := r
    rcases List.mem_cons.mp hy with e | e
    · rw [e]; exact SeqRoads2.EqGives.str z k t' t
    · exact eqkS_gives h y e
theorem str_bq (a b : Str) : (a.cps.toList == b.cps.toList) = (a == b) := by
  have h : a.cps.toList = b.cps.toList ↔ a = b := ⟨fun h => by cases a; cases b; simpa using h, fun h => by rw [h]⟩
  by_cases q : a = b
  · rw [beq_iff_eq.mpr q, beq_iff_eq.mpr (h.mpr q)]
  · rw [beq_eq_false_iff_ne.mpr q, beq_eq_false_iff_ne.mpr fun z => q (h.mp z)]
theorem eqkS_count {k : Str} : ∀ {us : List Value} {ys : List Str}, Vals (ys.map V.str) us → us.countP (eqkS k) = ys.count k
  | _, [], .nil => rfl
  | _, z :: ys, .cons r h => by
    obtain ⟨t', rfl⟩ := r
    have ih := eqkS_count (k := k) h
    rw [List.countP_cons, List.count_cons, ih]
    show _ + (if (z.cps.toList == k.cps.toList) = true then 1 else 0) = _
    rw [str_bq]
def rCntS (K : PySem.W.Frag) : V → List V → Hp → VK → Prop := fun x xs H Q => ∃ (p : Addr) (ns : List Str) (k : Str), x = .ref p ∧ xs = [.str k] ∧ SqL K H p (ns.map V.str) ∧ Q (.int (ns.count k : Nat)) H
theorem mt_lcountS {X : Cx} : L2.MtR X "list.count" (rCntS X.K) := by
  intro pins s σ H x xs v us Q I rx rxs h
  obtain ⟨p, ns, k, rfl, rfl, hs, q⟩ := h
  cases rx
  obtain ⟨u, rfl, ru⟩ := rxs.one
  obtain ⟨t, rfl⟩ := ru
  obtain ⟨its, rv, ⟨⟨cls, dd, data, sl⟩, n, ho, hc, hdn, hd⟩, hlen⟩ := I.list hs
  simp only at hc hd
  subst hc hd
  refine call_meets PySem.F.slot_list_count ⟨_, ho, rfl⟩ PySem.F.entry_list_count (PySem.F.args_list_count_2 _ _)
    (SeqAt.list_countAt p its.toArray n dd sl (.str k t) (eqkS k)) ⟨ho, fun y hy => (eqkS_gives rv y (by simpa using hy)).at _ _, ?_⟩
  have ec : its.toArray.toList.countP (eqkS k) = ns.count k := eqkS_count rv
  refine ⟨.int (ns.count k : Nat), H, I.tok _, ⟨s.toks, ?_⟩, q⟩
  show Value.int ((its.toArray.toList.countP (eqkS k) : Nat) : Int) s.toks = Value.int ((ns.count k : Nat) : Int) s.toks
  rw [ec]
def opCntS : QOp := fun d xs => match d, xs with
  | .lst ds, [.str k] => (strsD ds).map fun ys => D.int (ys.count k : Nat)
  | _, _ => none
theorem oq_cntS {K : PySem.W.Frag} : MqOk K opCntS (rCntS K) := by
  intro H d0 d ds v vs f0 g Q r0 rs e k
  unfold opCntS at e
  split at e
  · rename_i xs y
    cases h : strsD xs with
    | none => rw [h] at e; cases e
    | some ys =>
      rw [h] at e
      cases e
      have := strsD_eq h
      subst this
      obtain ⟨a, ws, g', rfl, t, q, _, _⟩ := r0.lstI
      obtain ⟨w, rfl, rw'⟩ := rs.one (d := .str y) rfl
      cases rw'
      rw [q.strs_inv] at t
      exact ⟨a, ys, y, rfl, rfl, t, k _ (.int _)⟩
  · cases e
/-! ### dict(pairs) -/
def prsD : List D → Option (List (Str × Int))
  | [] => some []
  | .tup [.str k, .int i] :: r => (prsD r).map ((k, i) :: ·)
  | _ :: _ => none
def putI (kvs : List (Str × Int)) (k : Str) (i : Int) : List (Str × Int) := if (kvs.any fun kv => decide (kv.1 = k)) = true then kvs.map (fun kv => if kv.1 = k then (kv.1, i) else kv) else kvs ++ [(k, i)]
def mgI (kvs l : List (Str × Int)) : List (Str × Int) := l.foldl (fun acc kv => putI acc kv.1 kv.2) kvs
def kvI (l : List (Str × Int)) : List (Key × D) := l.map fun p => (Sum.inr p.1, D.int p.2)
def kvV (l : List (Str × Int)) : List (Key × V) := l.map fun p => (Sum.inr p.1, V.int p.2)
theorem putI_V (kvs : List (Str × Int)) (k : Str) (i : Int) : putK (kvV kvs) (Sum.inr k) (V.int i) = kvV (putI kvs k i) := by
  have a : ((kvV kvs).any fun kv => decide (kv.1 = Sum.inr k)) = kvs.any fun kv => decide (kv.1 = k) := by
    unfold kvV; rw [List.any_map]; congr 1; funext p; simp
  unfold putK putI
  rw [a]
  split
  · unfold kvV
    rw [List.map_map, List.map_map]
    refine List.map_congr_left fun p _ => ?_
    by_cases h : p.1 = k <;> simp [h]
  · unfold kvV; rw [List.map_append]; rfl
theorem mgI_V : ∀ (l kvs : List (Str × Int)), mergeK (kvV kvs) (kvV l) = kvV (mgI kvs l)
  | [], kvs => rfl
  | p :: l, kvs => by
    have := mgI_V l (putI kvs p.1 p.2)
    rw [← putI_V] at this
    exact this
theorem putI_keys (kvs : List (Str × Int)) (k : Str) (i : Int) (n : (kvs.map (·.1)).Nodup) : ((putI kvs k i).map (·.1)).Nodup := by
  unfold putI
  split
  · have : (kvs.map fun kv => if kv.1 = k then (kv.1, i) else kv).map (·.1) = kvs.map (·.1) := by
      rw [List.map_map]
      refine List.map_congr_left fun p _ => ?_
      by_cases h : p.1 = k <;> simp [h]
    rw [this]; exact n
  · rename_i h
    rw [List.map_append, List.nodup_append]
    refine ⟨n, by simp, fun a ha b hb e => ?_⟩
    simp at hb
    subst hb; subst e
    obtain ⟨p, hp, e2⟩ := List.mem_map.mp ha
    exact h (List.any_eq_true.mpr ⟨p, hp, decide_eq_true e2⟩)
theorem mgI_keys : ∀ (l kvs : List (Str × Int)), (kvs.map (·.1)).Nodup → ((mgI kvs l).map (·.1)).Nodup
  | [], _, n => n
  | p :: l, kvs, n => mgI_keys l (putI kvs p.1 p.2) (putI_keys kvs p.1 p.2 n)
theorem repK_I {K : PySem.W.Frag} {H : Hp} : ∀ l : List (Str × Int), RepK K H (kvI l) (kvV l) []
  | [] => .nil
  | p :: l => .cons (f := []) (g := []) (.int p.2) (repK_I l)
theorem prs_paired {K : PySem.W.Frag} {H : Hp} : ∀ {ds : List D} {vs : List V} {f : List Addr} {l : List (Str × Int)}, Reps K H ds vs f → prsD ds = some l → ∃ ps : List Addr, vs = ps.map V.ref ∧ Paired (fun p kv => SqT K H p [kV kv.1, kv.2]) ps (kvV l)
  | [], _, _, l, .nil, e => by cases e; exact ⟨[], rfl, .nil⟩
  | d :: ds, _, _, l, .cons r t, e => by
    unfold prsD at e
    split at e
    · rename_i he; cases he
    · rename_i k i r' he
      cases he
      cases h : prsD ds with
      | none => rw [h] at e; cases e
      | some l' =>
        rw [h] at e; cases e
        obtain ⟨ps, e1, e2⟩ := prs_paired t h
        obtain ⟨a, ws, rfl, q, rr⟩ := r.tupI
        cases rr with
        | cons r1 r2 =>
          cases r2 with
          | cons r3 r4 =>
            cases r4
            cases r1; cases r3
            exact ⟨a :: ps, by rw [e1]; rfl, .cons (.of q) e2⟩
    · cases e
def bDct : List KD → Option KD
  | [(_, .lst ds)] => (prsD ds).map fun l => (.own, .dic (kvI (mgI [] l)))
  | _ => none
def rDctA (K : PySem.W.Frag) : List V → Hp → VK → Prop := fun xs H Q => ∃ (a : Addr) (ps : List Addr) (kvs : List (Key × V)), xs = [.ref a] ∧ SqL K H a (ps.map V.ref) ∧ Paired (fun p kv => SqT K H p [kV kv.1, kv.2]) ps kvs ∧
    ∀ p, H p = none → Q (.ref p) (upd H p (.dK (mergeK [] kvs)))
theorem oDct {K : PySem.W.Frag} : BltOk K bDct (rDctA K) := by
  intro A H0 H H1 F G ρ σ Q xs vs g kd sr s1 r o e h
  unfold bDct at e
  split at e
  · rename_i k ds
    cases hl : prsD ds with
    | none => rw [hl] at e; cases e
    | some l =>
      rw [hl] at e; cases e
      obtain ⟨v, rfl, r0⟩ := r.one (d := .lst ds) rfl
      obtain ⟨a, ws, g', rfl, t, q, i1, n1⟩ := r0.lstI
      obtain ⟨ps, e1, pr⟩ := prs_paired q hl
      subst e1
      refine ⟨a, ps, kvV l, rfl, t, pr, fun p np => ?_⟩
      have e2 := mgI_V l []
      have e2 : mergeK [] (kvV l) = kvV (mgI [] l) := e2
      rw [e2]
      have nd := mgI_keys l [] (by simp)
      have nd2 : ((kvI (mgI [] l)).map (·.1)).Nodup := by
        have : (kvI (mgI [] l)).map (·.1) = ((mgI [] l).map (·.1)).map Sum.inr := by unfold kvI; rw [List.map_map, List.map_map]; rfl
        rw [this]
        exact List.Pairwise.map _ (fun a b h z => h (Sum.inr.inj z)) nd
      refine h _ _ [p] (s1.trans (same_upd np)) (.dic upd_same nd2 (repK_I _)) ⟨List.nodup_cons.mpr ⟨by simp, List.nodup_nil⟩, fun b hb => ?_⟩
      rw [List.mem_singleton.mp hb]
      exact ⟨s1.free np, ⟨by rw [upd_same]; trivial⟩⟩
  · cases e
end Cz
set_option maxHeartbeats 2000000
/-! Cz31: x, y = a, b. -/
namespace Cz
open PySem PySem.Spec PyProof.Rows L2
/-- x, y = a, b; neither holds a list -/
def swpS (i j : Nat) (s : SA) : SS := fun ρ => (s ρ).out ρ fun xs => match xs with
  | [x, y] => if noL x.2 = true ∧ noL y.2 = true then .nx ((ρ.set i (mkS .own x.2)).set j (mkS .own y.2)) else .st
  | _ => .st
section
variable {X : Cx} {CA : String → Addr} {W : WX} {pos : Pos} {s : SA}
theorem s_swp (i j : Nat) {x y : Str} {a b : Expr} {px py pt : Pos} {kt k2 pt2} (hc : X.calm = true) (hN : X.N.Nodup) (ha : PA X [a, b] (tA X.K CA W s)) (hi : X.N[i]? = some x := by rfl) (hj : X.N[j]? = some y := by rfl) (hij : i ≠ j := by decide)
    (hx : X.env.scope.names.lookup x = some .local := by rfl) (hy : X.env.scope.names.lookup y = some .local := by rfl)
    (hw : swappedStores [.Tuple [.Name x px, .Name y py] kt pt] (.Tuple [a, b] k2 pt2) X.env = pure (some [x, y]) := by rfl)
    (hs : swapsWithSole [.Tuple [.Name x px, .Name y py] kt pt] (.Tuple [a, b] k2 pt2) pos.line X.env = pure false := by rfl) :
    PS X (.Assign [.Tuple [.Name x px, .Name y py] kt pt] (.Tuple [a, b] k2 pt2) pos) (tS X.K CA W (swpS i j s)) := by
  refine psI (ps_par hc hN hi hj hij hx hy ha hw hs) fun D σ H h => ?_
  obtain ⟨A, H0, F, G, ρ, sr, h⟩ := h
  refine ⟨A, H0, F, G, ρ, sr, (lift h sr).imp fun xs _ q vs H1 f s1 r o => ?_⟩
  match xs, r, q with
  | [], _, q => exact q.elim
  | [_], _, q => exact q.elim
  | [x1, x2], r, q =>
    have q : OutOk X.K CA W A H0 G D (if noL x1.2 = true ∧ noL x2.2 = true then .nx ((ρ.set i (mkS .own x1.2)).set j (mkS .own x2.2)) else .st) := q
    cases r with
    | cons r1 r2 =>
      cases r2 with
      | cons r2 r3 =>
        cases r3
        split at q
        · rename_i nn
          have z1 := r1.noL nn.1
          have z2 := r2.noL nn.2
          subst z1; subst z2
          refine ⟨_, _, rfl, ?_⟩
          obtain ⟨f1, sr1, _, _⟩ := sr.set s1 r1 (KOk.nil .own) i
          obtain ⟨f2, sr2, _, _⟩ := sr1.set (Same.refl _) r2 (KOk.nil .own) j
          exact q _ _ _ sr2
        · exact q.elim
  | _ :: _ :: _ :: _, _, q => exact q.elim
end
end Cz
set_option maxHeartbeats 1000000
/-! Ev1: the evaluator by rewriting. -/
namespace Cz
open PySem PySem.Spec PyProof.Rows L2
section
variable {ρ : Env} {a b c : SE} {t u v : STs} {s s' : SS} {k k' : Kd} {d d' : D} {is : List Nat}
@[simp] theorem locE_ev (i : Nat) : locE i ρ = match ρ[i]? with | some (.ow d) => .ok (.bor [i], d) | some (.bo is d) => .ok (.bor is, d) | _ => .st := id rfl
@[simp] theorem conE_ev : conE d ρ = .ok (.own, d) := id rfl
@[simp] theorem binE_ev {op : Operator} : binE op a b ρ = (a ρ).bind fun x => (b ρ).bind fun y => R.of (opB op x y) := id rfl
@[simp] theorem cmpT_ev {op : CmpOp} : cmpT op a b ρ = (a ρ).bind fun x => (b ρ).bind fun y => R.of (cmpB op x.2 y.2) := id rfl
@[simp] theorem chnT_ev {o1 o2 : CmpOp} : chnT o1 o2 a b c ρ = (a ρ).bind fun x => (b ρ).bind fun y => (R.of (cmpB o1 x.2 y.2)).bind fun t => if t = true then (c ρ).bind fun z => R.of (cmpB o2 y.2 z.2) else .ok false := id rfl
@[simp] theorem andT_ev : andT t u ρ = (t ρ).bind fun b => if b = true then u ρ else .ok false := id rfl
@[simp] theorem orT_ev : orT t u ρ = (t ρ).bind fun b => if b = true then .ok true else u ρ := id rfl
@[simp] theorem notT_ev : notT t ρ = (t ρ).bind fun b => .ok (!b) := id rfl
@[simp] theorem valT_ev : valT a ρ = (a ρ).bind fun x => R.of (truD x.2) := id rfl
@[simp] theorem boolE_ev : boolE t ρ = (t ρ).bind fun b => .ok (.own, .bl b) := id rfl
@[simp] theorem bvT_ev : bvT a ρ = (a ρ).bind fun x => match x.2 with | .bl b => .ok b | _ => .st := id rfl
@[simp] theorem iteE_ev : iteE t a b ρ = (t ρ).bind fun c => if c = true then a ρ else b ρ := id rfl
@[simp] theorem negE_ev : negE a ρ = (a ρ).bind fun x => match x.2 with | .int i => .ok (.own, .int (-i)) | _ => .st := id rfl
@[simp] theorem nilA_ev : nilA ρ = .ok [] := id rfl
@[simp] theorem consA_ev {r : SA} : consA a r ρ = (a ρ).bind fun x => (r ρ).bind fun xs => .ok (x :: xs) := id rfl
@[simp] theorem tupE_ev {r : SA} : tupE r ρ = (r ρ).bind fun xs => if xs.length ≤ LIM then .ok (jn xs, .tup (xs.map (·.2))) else .st := id rfl
@[simp] theorem lstE_ev {r : SA} : lstE r ρ = (r ρ).bind fun xs => if xs.length ≤ LIM then .ok (lk (jn xs) (xs.map (·.2)), .lst (xs.map (·.2))) else .st := id rfl
@[simp] theorem dnwE_ev : dnwE ρ = .ok (.own, .dic []) := id rfl
@[simp] theorem idxE_ev : idxE a b ρ = (a ρ).bind fun x => (b ρ).bind fun y => R.of (idxB x y.2) := id rfl
@[simp] theorem noO_ev : noO ρ = .ok none := id rfl
@[simp] theorem someO_ev : someO a ρ = (a ρ).bind fun x => match x.2 with | .int i => .ok (some i) | _ => .st := id rfl
@[simp] theorem slE_ev {lo hi : SO} : slE a lo hi ρ = (a ρ).bind fun x => (lo ρ).bind fun l => (hi ρ).bind fun h => R.of (slB x l h) := id rfl
@[simp] theorem callE_ev {fn : Fn} {r : SA} {dd : List D} : callE fn r dd ρ = (r ρ).bind fun xs => (fn (xs.map (·.2) ++ dd)).bind fun kd => .ok (retK kd.1 (jn xs), kd.2) := id rfl
@[simp] theorem bltE_ev {f : List KD → Option KD} {r : SA} : bltE f r ρ = (r ρ).bind fun xs => R.of (f xs) := id rfl
@[simp] theorem isiE_ev {T : String} : isiE a T ρ = (a ρ).bind fun x => if tyK x.2 = true then (match kitB (tyD x.2) T with | some b => .ok (.own, .bl b) | none => .st) else .st := id rfl
@[simp] theorem tyK_non : tyK .non = true := id rfl
@[simp] theorem tyK_bl {b : Bool} : tyK (.bl b) = true := id rfl
@[simp] theorem tyK_int {i : Int} : tyK (.int i) = true := id rfl
@[simp] theorem tyK_str {i : Str} : tyK (.str i) = true := id rfl
@[simp] theorem tyK_tup {l : List D} : tyK (.tup l) = true := id rfl
@[simp] theorem tyK_lst {l : List D} : tyK (.lst l) = true := id rfl
@[simp] theorem tyK_scr {l : List D} : tyK (.scr l) = true := id rfl
@[simp] theorem tyK_dic {l : List (Key × D)} : tyK (.dic l) = true := id rfl
@[simp] theorem seqI_ev : seqI a ρ = (a ρ).bind fun x => match x.2 with | .lst ds => .ok (x.1, ds) | .scr ds => .ok (x.1, ds) | .tup ds => .ok (x.1, ds) | .str z => .ok (.own, z.cps.toList.map fun c => .str ⟨#[c]⟩) | _ => .st := id rfl
@[simp] theorem rng1I_ev : rng1I a ρ = (a ρ).bind fun x => match x.2 with | .int j => if rgOk j = true then .ok (.own, rng 0 j.toNat) else .st | _ => .st := id rfl
@[simp] theorem rng2I_ev : rng2I a b ρ = (a ρ).bind fun x => (b ρ).bind fun y => match x.2, y.2 with | .int i, .int j => if (rgOk i && rgOk j) = true then .ok (.own, rng i (j - i).toNat) else .st | _, _ => .st := id rfl
@[simp] theorem yesT_ev : yesT ρ = .ok true := id rfl
theorem lcE_ev {it : SI} {own : List Nat} {tg : Tgt} {ifs : STs} {elt : SE} : lcE it own tg ifs elt ρ = (it ρ).bind fun kds => if own.all (notOw ρ) = true ∧ kds.2.length ≤ LIM then (noex (lcL tg ifs elt kds.1 (wipE ρ own) kds.2)).bind fun xs => .ok (lk (jn xs) (xs.map (·.2)), .lst (xs.map (·.2))) else .st := id rfl
@[simp] theorem nilS_ev : nilS ρ = .nx ρ := id rfl
def Out.seq (o : Out) (f : Env → Out) : Out := match o with | .nx ρ' => f ρ' | o => o
@[simp] theorem seqS_ev : seqS s s' ρ = (s ρ).seq s' := id rfl
@[simp] theorem seq_nx {f : Env → Out} : (Out.nx ρ).seq f = f ρ := id rfl
@[simp] theorem seq_rt {f : Env → Out} : (Out.rt k d).seq f = .rt k d := id rfl
@[simp] theorem seq_bk {f : Env → Out} : (Out.bk ρ).seq f = .bk ρ := id rfl
@[simp] theorem seq_ct {f : Env → Out} : (Out.ct ρ).seq f = .ct ρ := id rfl
@[simp] theorem seq_ex {f : Env → Out} {c : Ec} : (Out.ex c ρ).seq f = .ex c ρ := id rfl
@[simp] theorem seq_st {f : Env → Out} : Out.st.seq f = .st := id rfl
@[simp] theorem seq_ite {f : Env → Out} {p : Prop} [Decidable p] {x y : Out} : (if p then x else y).seq f = if p then x.seq f else y.seq f := by split <;> rfl
def Out.turn (o : Out) (f : Env → Out) : Out := match o with | .nx ρ2 => f ρ2 | .ct ρ2 => f ρ2 | .bk ρ2 => .nx ρ2 | o => o
@[simp] theorem turn_nx {f : Env → Out} : (Out.nx ρ).turn f = f ρ := id rfl
@[simp] theorem turn_rt {f : Env → Out} : (Out.rt k d).turn f = .rt k d := id rfl
@[simp] theorem turn_bk {f : Env → Out} : (Out.bk ρ).turn f = .nx ρ := id rfl
@[simp] theorem turn_ct {f : Env → Out} : (Out.ct ρ).turn f = f ρ := id rfl
@[simp] theorem turn_ex {f : Env → Out} {c : Ec} : (Out.ex c ρ).turn f = .ex c ρ := id rfl
@[simp] theorem turn_st {f : Env → Out} : Out.st.turn f = .st := id rfl
@[simp] theorem turn_ite {f : Env → Out} {p : Prop} [Decidable p] {x y : Out} : (if p then x else y).turn f = if p then x.turn f else y.turn f := by split <;> rfl
def Out.fin (o : Out) : R KD := match o with | .rt k d => .ok (nk k d, d) | .nx _ => .ok (.own, .non) | .ex c _ => .ex c | _ => .st
@[simp] theorem fin_nx : (Out.nx ρ).fin = .ok (.own, .non) := id rfl
@[simp] theorem fin_rt : (Out.rt k d).fin = .ok (nk k d, d) := id rfl
@[simp] theorem nk_own : nk .own d = .own := by unfold nk; split <;> rfl
theorem nk_noL (h : noL d = true) : nk k d = .own := if_pos h
@[simp] theorem nk_int {i : Int} : nk k (.int i) = .own := nk_noL (by simp [noL])
@[simp] theorem nk_bl {i : Bool} : nk k (.bl i) = .own := nk_noL (by simp [noL])
@[simp] theorem nk_str {i : Str} : nk k (.str i) = .own := nk_noL (by simp [noL])
@[simp] theorem nk_non : nk k .non = .own := nk_noL (by simp [noL])
@[simp] theorem nk_tup {l : List D} : nk k (.tup l) = lk k l := by
  have e : noL (.tup l) = noLs l := by simp [noL]
  unfold nk lk
  rw [e]
@[simp] theorem nk_lst {l : List D} : nk k (.lst l) = k := by simp [nk, noL]
@[simp] theorem nk_dic {l : List (Key × D)} : nk k (.dic l) = k := by simp [nk, noL]
@[simp] theorem fin_ex {c : Ec} : (Out.ex c ρ).fin = .ex c := id rfl
@[simp] theorem fin_st : Out.st.fin = .st := id rfl
@[simp] theorem fin_ite {p : Prop} [Decidable p] {x y : Out} : (if p then x else y).fin = if p then x.fin else y.fin := by split <;> rfl
@[simp] theorem bkS_ev : bkS ρ = .bk ρ := id rfl
@[simp] theorem ctS_ev : ctS ρ = .ct ρ := id rfl
@[simp] theorem asgS_ev {g : Tgt} : asgS g a ρ = (a ρ).out ρ fun x => match g x.1 x.2 ρ with | some ρ' => .nx ρ' | none => .st := id rfl
@[simp] theorem ifS_ev : ifS t s s' ρ = (t ρ).out ρ fun c => if c = true then s ρ else s' ρ := id rfl
@[simp] theorem retS_ev : retS a ρ = (a ρ).out ρ fun x => .rt x.1 x.2 := id rfl
@[simp] theorem retV_ev {i : Nat} : retV i ρ = match ρ[i]? with | some (.ow d) => .rt .own d | some (.bo is d) => .rt (.bor is) d | _ => .st := id rfl
@[simp] theorem retN_ev : retN ρ = .rt .own .non := id rfl
@[simp] theorem raiS_ev {c : String} : raiS c ρ = .ex c ρ := id rfl
@[simp] theorem dropS_ev : dropS a ρ = (a ρ).out ρ fun _ => .nx ρ := id rfl
@[simp] theorem forS_ev {it : SI} {g : Tgt} : forS it g s ρ = (it ρ).out ρ fun kds => loopS g s kds.2 (frz kds.1.is ρ) := id rfl
@[simp] theorem loopS_nil {g : Tgt} : loopS g s [] ρ = .nx ρ := id rfl
theorem loopS_cons {g : Tgt} {ds : List D} : loopS g s (d :: ds) ρ = match g (.bor []) d ρ with | none => .st | some ρ1 => (s ρ1).turn (loopS g s ds) := id rfl
@[simp] theorem augS_ev {i : Nat} {op : Operator} : augS i op a ρ = match slD ρ[i]? with | some d0 => ((a ρ).out ρ fun x => match augB op d0 x.2 with | some d => .nx (ρ.set i (mkS .own d)) | none => .st) | none => .st := id rfl
@[simp] theorem appS_ev {i : Nat} : appS i a ρ = match ρ[i]? with | some (.ow (.lst ds)) => (a ρ).out ρ fun x => if okIn x.1 [x.2] = true ∧ ds.length < LIM then .nx ((inv i ρ).set i (.ow (.lst (ds ++ [x.2])))) else .st | _ => .st := id rfl
@[simp] theorem tgN_ev {i : Nat} : tgN i k d ρ = some (ρ.set i (mkS k d)) := id rfl
@[simp] theorem tgT_tup {g : Tgts} {ds : List D} : tgT g k (.tup ds) ρ = g k.is ds ρ := id rfl
@[simp] theorem tgT_lst {g : Tgts} {ds : List D} : tgT g k (.lst ds) ρ = g k.is ds ρ := id rfl
@[simp] theorem tgNil_ev : tgNil is [] ρ = some ρ := id rfl
@[simp] theorem tgCons_ev {g : Tgt} {r : Tgts} {ds : List D} : tgCons g r is (d :: ds) ρ = (g (.bor is) d ρ).bind fun ρ' => r is ds ρ' := id rfl
@[simp] theorem tgCons_nil {g : Tgt} {r : Tgts} : tgCons g r is [] ρ = none := id rfl
@[simp] theorem runF_ev {m : Nat} {ds : List D} : runF m s ds = (s (ds.map (Sl.bo []) ++ List.replicate (m - ds.length) .no)).fin := id rfl
theorem mkF_ev {n m : Nat} {ds : List D} : mkF n m s ds = if ds.length = n then runF m s ds else .st := id rfl
/-! kinds, slots -/
@[simp] theorem mkS_int {i : Int} : mkS k (.int i) = .bo [] (.int i) := by cases k <;> rfl
@[simp] theorem mkS_bl {i : Bool} : mkS k (.bl i) = .bo [] (.bl i) := by cases k <;> rfl
@[simp] theorem mkS_str {i : Str} : mkS k (.str i) = .bo [] (.str i) := by cases k <;> rfl
@[simp] theorem mkS_non : mkS k .non = .bo [] .non := by cases k <;> rfl
@[simp] theorem mkS_ownL {ds : List D} : mkS .own (.lst ds) = .ow (.lst ds) := id rfl
@[simp] theorem mkS_ownT {ds : List D} : mkS .own (.tup ds) = .ow (.tup ds) := id rfl
@[simp] theorem mkS_ownD {ds : List (Key × D)} : mkS .own (.dic ds) = .ow (.dic ds) := id rfl
@[simp] theorem mkS_borL {ds : List D} : mkS (.bor is) (.lst ds) = .bo is (.lst ds) := id rfl
@[simp] theorem mkS_borT {ds : List D} : mkS (.bor is) (.tup ds) = .bo is (.tup ds) := id rfl
@[simp] theorem mkS_borS {ds : List D} : mkS (.bor is) (.scr ds) = .bo is (.scr ds) := id rfl
@[simp] theorem mkS_borD {ds : List (Key × D)} : mkS (.bor is) (.dic ds) = .bo is (.dic ds) := id rfl
@[simp] theorem Kd_is_own : Kd.is .own = [] := id rfl
@[simp] theorem Kd_is_bor : Kd.is (.bor is) = is := id rfl
@[simp] theorem jn_nil : jn [] = .own := id rfl
@[simp] theorem jn_cons {x : KD} {r : List KD} : jn (x :: r) = (nk x.1 x.2).join (jn r) := id rfl
@[simp] theorem join_oo : Kd.join .own .own = .own := id rfl
@[simp] theorem join_ob : Kd.join .own (.bor is) = .bor is := id rfl
@[simp] theorem join_bo : Kd.join (.bor is) .own = .bor is := by simp [Kd.join, Kd.is]
@[simp] theorem join_bb {js : List Nat} : Kd.join (.bor is) (.bor js) = .bor (is ++ js) := id rfl
@[simp] theorem retK_own : retK .own k = .own := id rfl
@[simp] theorem retK_bor : retK (.bor is) k = .bor k.is := id rfl
@[simp] theorem frz_nil : frz [] ρ = ρ := id rfl
@[simp] theorem frz_cons {j : Nat} : frz (j :: is) ρ = frz is (frz1 j ρ) := id rfl
@[simp] theorem frz1_ev {j : Nat} : frz1 j ρ = match ρ[j]? with | some (.ow d) => ρ.set j (.bo [] d) | _ => ρ := id rfl
@[simp] theorem inv_nil {i : Nat} : inv i [] = [] := id rfl
@[simp] theorem inv_no {i : Nat} : inv i (.no :: ρ) = .no :: inv i ρ := id rfl
@[simp] theorem inv_owc {i : Nat} : inv i (.ow d :: ρ) = .ow d :: inv i ρ := id rfl
@[simp] theorem inv_boc {i : Nat} : inv i (.bo is d :: ρ) = (if i ∈ is then .no else .bo is d) :: inv i ρ := id rfl
@[simp] theorem wipE_nil : wipE ρ [] = ρ := id rfl
@[simp] theorem wipE_cons {i : Nat} : wipE ρ (i :: is) = (wipE ρ is).set i .no := id rfl
@[simp] theorem notOw_ev {i : Nat} : notOw ρ i = (decide (i < ρ.length) && match ρ[i]? with | some (.ow _) => false | _ => true) := id rfl
@[simp] theorem slD_ow : slD (some (.ow d)) = some d := id rfl
@[simp] theorem slD_bo : slD (some (.bo is d)) = some d := id rfl
/-! values -/
@[simp] theorem opB_add {i j : Int} : opB .Add (k, .int i) (k', .int j) = some (.own, .int (i + j)) := id rfl
@[simp] theorem opB_sub {i j : Int} : opB .Sub (k, .int i) (k', .int j) = some (.own, .int (i - j)) := id rfl
@[simp] theorem opB_mul {i j : Int} : opB .Mult (k, .int i) (k', .int j) = if mulOk i j = true then some (.own, .int (i * j)) else none := id rfl
@[simp] theorem opB_div {i j : Int} : opB .FloorDiv (k, .int i) (k', .int j) = if divOk j = true then some (.own, .int (i / j)) else none := id rfl
@[simp] theorem opB_mod {i j : Int} : opB .Mod (k, .int i) (k', .int j) = if 0 < j then some (.own, .int (i % j)) else none := id rfl
@[simp] theorem opB_pow {i j : Int} : opB .Pow (k, .int i) (k', .int j) = if powOk i j = true then some (.own, .int (i ^ j.toNat)) else none := id rfl
@[simp] theorem opB_addS {i j : Str} : opB .Add (k, .str i) (k', .str j) = if i.length + j.length ≤ LIM then some (.own, .str (i ++ j)) else none := id rfl
@[simp] theorem opB_addT {x y : List D} : opB .Add (k, .tup x) (k', .tup y) = if x.length + y.length ≤ LIM then some (k.join k', .tup (x ++ y)) else none := id rfl
@[simp] theorem opB_addL {x y : List D} : opB .Add (k, .lst x) (k', .lst y) = if x.length + y.length ≤ LIM then some (lk (k.join k') (x ++ y), .lst (x ++ y)) else none := id rfl
@[simp] theorem opB_mulT {x : List D} {j : Int} : opB .Mult (k, .tup x) (k', .int j) = if x ≠ [] ∧ 1 ≤ j ∧ j ≤ 1000 ∧ x.length ≤ 1000 ∧ noLs x = true then some (k, .tup (List.replicate j.toNat x).flatten) else none := id rfl
@[simp] theorem cmpB_lt {i j : Int} : cmpB .Lt (.int i) (.int j) = some (decide (i < j)) := id rfl
@[simp] theorem cmpB_le {i j : Int} : cmpB .LtE (.int i) (.int j) = some (decide (i ≤ j)) := id rfl
@[simp] theorem cmpB_gt {i j : Int} : cmpB .Gt (.int i) (.int j) = some (decide (i > j)) := id rfl
@[simp] theorem cmpB_ge {i j : Int} : cmpB .GtE (.int i) (.int j) = some (decide (i ≥ j)) := id rfl
@[simp] theorem cmpB_eq : cmpB .Eq d d' = eqD d d' := id rfl
@[simp] theorem cmpB_ne : cmpB .NotEq d d' = (eqD d d').map (!·) := id rfl
@[simp] theorem cmpB_is : cmpB .Is d .non = some (isNon d) := id rfl
@[simp] theorem cmpB_isnot : cmpB .IsNot d .non = some (!isNon d) := id rfl
@[simp] theorem cmpB_in : cmpB .In d d' = inD d d' := id rfl
@[simp] theorem cmpB_nin : cmpB .NotIn d d' = (inD d d').map (!·) := id rfl
@[simp] theorem isNon_non : isNon .non = true := id rfl
@[simp] theorem isNon_int {i : Int} : isNon (.int i) = false := id rfl
@[simp] theorem isNon_tup {l : List D} : isNon (.tup l) = false := id rfl
@[simp] theorem isNon_lst {l : List D} : isNon (.lst l) = false := id rfl
@[simp] theorem truD_bl {x : Bool} : truD (.bl x) = some x := id rfl
@[simp] theorem truD_int {x : Int} : truD (.int x) = some (x != 0) := id rfl
@[simp] theorem augB_add {i j : Int} : augB .Add (.int i) (.int j) = some (.int (i + j)) := id rfl
@[simp] theorem augB_sub {i j : Int} : augB .Sub (.int i) (.int j) = some (.int (i - j)) := id rfl
@[simp] theorem augB_mul {i j : Int} : augB .Mult (.int i) (.int j) = if mulOk i j = true then some (.int (i * j)) else none := id rfl
@[simp] theorem idxB_lst {l : List D} {i : Int} : idxB (k, .lst l) (.int i) = (atI l i).map fun d => (k, d) := id rfl
@[simp] theorem idxB_scr {l : List D} {i : Int} : idxB (k, .scr l) (.int i) = (atI l i).map fun d => (k, d) := id rfl
@[simp] theorem idxB_tup {l : List D} {i : Int} : idxB (k, .tup l) (.int i) = (atI l i).map fun d => (k, d) := id rfl
@[simp] theorem idxB_dic {l : List (Key × D)} : idxB (k, .dic l) d = (keyD d).bind fun q => (valD l q).map fun d => (k, d) := by cases d <;> rfl
@[simp] theorem slB_lst {l : List D} {lo hi : Option Int} : slB (k, .lst l) lo hi = some (lk k (cutD l lo hi), .lst (cutD l lo hi)) := id rfl
@[simp] theorem slB_scr {l : List D} {lo hi : Option Int} : slB (k, .scr l) lo hi = some (lk k (cutD l lo hi), .lst (cutD l lo hi)) := id rfl
@[simp] theorem slB_tup {l : List D} {lo hi : Option Int} : slB (k, .tup l) lo hi = some (k, .tup (cutD l lo hi)) := id rfl
@[simp] theorem bLen_ev {x : KD} : bLen [x] = (lenD x.2).map fun (n : Nat) => (Kd.own, D.int (n : Int)) := id rfl
@[simp] theorem lenD_lst {l : List D} : lenD (.lst l) = some l.length := id rfl
@[simp] theorem lenD_scr {l : List D} : lenD (.scr l) = some l.length := id rfl
@[simp] theorem lenD_tup {l : List D} : lenD (.tup l) = some l.length := id rfl
@[simp] theorem lenD_dic {l : List (Key × D)} : lenD (.dic l) = some l.length := id rfl
@[simp] theorem bMax_2 {i j : Int} : bMax [(k, .int i), (k', .int j)] = some (.own, .int (max i j)) := id rfl
@[simp] theorem bMax_l {l : List D} : bMax [(k, .lst l)] = ((intsD l).bind maxL).map fun n => (.own, .int n) := id rfl
@[simp] theorem bMax_t {l : List D} : bMax [(k, .tup l)] = ((intsD l).bind maxL).map fun n => (.own, .int n) := id rfl
@[simp] theorem bMin_2 {i j : Int} : bMin [(k, .int i), (k', .int j)] = some (.own, .int (min i j)) := id rfl
@[simp] theorem bMin_l {l : List D} : bMin [(k, .lst l)] = ((intsD l).bind minL).map fun n => (.own, .int n) := id rfl
@[simp] theorem bMin_t {l : List D} : bMin [(k, .tup l)] = ((intsD l).bind minL).map fun n => (.own, .int n) := id rfl
@[simp] theorem bSum_l {l : List D} : bSum [(k, .lst l)] = (intsD l).map fun ns => (.own, .int ns.sum) := id rfl
@[simp] theorem bSum_s {l : List D} : bSum [(k, .scr l)] = (intsD l).map fun ns => (.own, .int ns.sum) := id rfl
@[simp] theorem bAll_l {l : List D} : bAll [(k, .lst l)] = (blsD l).map fun ns => (.own, .bl (ns.all id)) := id rfl
@[simp] theorem bAny_l {l : List D} : bAny [(k, .lst l)] = (blsD l).map fun ns => (.own, .bl (ns.any id)) := id rfl
@[simp] theorem bTup_l {l : List D} : bTup [(k, .lst l)] = some (k, .tup l) := id rfl
@[simp] theorem bTup_t {l : List D} : bTup [(k, .tup l)] = some (k, .tup l) := id rfl
@[simp] theorem bLst_l {l : List D} : bLst [(k, .lst l)] = some (lk k l, .lst l) := id rfl
@[simp] theorem bLst_t {l : List D} : bLst [(k, .tup l)] = some (lk k l, .lst l) := id rfl
@[simp] theorem bLst_s {l : List D} : bLst [(k, .scr l)] = some (lk k l, .lst l) := id rfl
@[simp] theorem bInt_i {i : Int} : bInt [(k, .int i)] = some (.own, .int i) := id rfl
@[simp] theorem bInt_b {i : Bool} : bInt [(k, .bl i)] = some (.own, .int (if i then 1 else 0)) := id rfl
@[simp] theorem bAbs_i {i : Int} : bAbs [(k, .int i)] = some (.own, .int (if i < 0 then -i else i)) := id rfl
@[simp] theorem noL_int {i : Int} : noL (.int i) = true := id rfl
@[simp] theorem noL_bl {i : Bool} : noL (.bl i) = true := id rfl
@[simp] theorem noL_str {i : Str} : noL (.str i) = true := id rfl
@[simp] theorem noL_non : noL .non = true := id rfl
@[simp] theorem noL_tup {l : List D} : noL (.tup l) = noLs l := by simp [noL]
@[simp] theorem noL_lst {l : List D} : noL (.lst l) = false := by simp [noL]
@[simp] theorem noL_dic {l : List (Key × D)} : noL (.dic l) = false := by simp [noL]
@[simp] theorem noLs_nil : noLs [] = true := by simp [noLs]
@[simp] theorem noLs_cons {l : List D} : noLs (d :: l) = (noL d && noLs l) := by simp [noLs]
@[simp] theorem noLs_app {l m : List D} : noLs (l ++ m) = (noLs l && noLs m) := by
  induction l with
  | nil => simp
  | cons x l ih => simp [ih, Bool.and_assoc]
theorem lk_own {l : List D} : lk .own l = .own := by unfold lk; split <;> rfl
@[simp] theorem lk_own' {l : List D} : lk .own l = .own := lk_own
theorem lk_noL {l : List D} (h : noLs l = true) : lk k l = .own := if_pos h
@[simp] theorem lk_ints {l : List Int} : lk k (l.map D.int) = .own := lk_noL (noLs_ints l)
@[simp] theorem okIn_own {l : List D} : okIn .own l = true := id rfl
@[simp] theorem okIn_bor {l : List D} : okIn (.bor is) l = noLs l := id rfl
@[simp] theorem noex_ok {α : Type} {x : α} : noex (.ok x) = .ok x := id rfl
@[simp] theorem R_of_ite {α : Type} {p : Prop} [Decidable p] {x y : Option α} : R.of (if p then x else y) = if p then R.of x else R.of y := by split <;> rfl
@[simp] theorem R_bind_ite {α β : Type} {p : Prop} [Decidable p] {x y : R α} {f : α → R β} : (if p then x else y).bind f = if p then x.bind f else y.bind f := by split <;> rfl
@[simp] theorem R_out_ite {α : Type} {p : Prop} [Decidable p] {x y : R α} {f : α → Out} : (if p then x else y).out ρ f = if p then x.out ρ f else y.out ρ f := by split <;> rfl
theorem lim_ge {n : Nat} (h : n ≤ 16777216) : n ≤ LIM := h
@[simp] theorem lim_lit : LIM = 16777216 := id rfl
end
end Cz
set_option maxHeartbeats 1000000
/-! Ev1b: the evaluator by rewriting, places and the like. -/
namespace Cz
open PySem PySem.Spec PyProof.Rows L2
section
variable {ρ : Env} {a b c : SE} {t u v : STs} {s s' : SS} {k k' : Kd} {d d' : D} {is : List Nat} {p : SPh} {r : SA}
@[simp] theorem locP_ev {i : Nat} : locP i ρ = match ρ[i]? with | some (.ow d) => .ok (i, [], d) | _ => .st := id rfl
@[simp] theorem idxP_ev : idxP p a ρ = (p ρ).bind fun x => (a ρ).bind fun y => match stepD x.2.2 y.2 with | some (i, d) => .ok (x.1, x.2.1 ++ [i], d) | none => .st := id rfl
@[simp] theorem stepD_lst {ds : List D} {n : Int} : stepD (.lst ds) (.int n) = (ixN ds.length n).bind fun j => ds[j]?.map fun d => (.at j, d) := id rfl
@[simp] theorem stepD_dic {ds : List (Key × D)} : stepD (.dic ds) d = (keyD d).bind fun k => (valD ds k).map fun d => (.key k, d) := id rfl
@[simp] theorem mtS_ev {T : MT} {op : MOp} : mtS T p r op ρ = (p ρ).out ρ fun x => if T.ok x.2.2 = true then (r ρ).out ρ fun xs => match op x.2.2 xs with | some y => (match putAt ρ x y.2 with | some ρ' => .nx ρ' | none => .st) | none => .st else .st := id rfl
@[simp] theorem mtA_ev {T : MT} {op : MOp} {g : Tgt} : mtA g T p r op ρ = (p ρ).out ρ fun x => if T.ok x.2.2 = true then (r ρ).out ρ fun xs => match op x.2.2 xs with | some y => (match putAt ρ x y.2 with | some ρ' => (match g .own y.1 ρ' with | some ρ2 => .nx ρ2 | none => .st) | none => .st) | none => .st else .st := id rfl
@[simp] theorem stoS_ev : stoS p a b ρ = (b ρ).out ρ fun x => (p ρ).out ρ fun y => (a ρ).out ρ fun z => match setB y.2.2 z.2 x with | some d => (match putAt ρ y d with | some ρ' => .nx ρ' | none => .st) | none => .st := id rfl
@[simp] theorem staS_ev {op : Operator} : staS op p a b ρ = (p ρ).out ρ fun y => (a ρ).out ρ fun z => match getB y.2.2 z.2 with | some d1 => ((b ρ).out ρ fun x => match augB op d1 x.2 with | some d2 => (match setB y.2.2 z.2 (.own, d2) with | some d => (match putAt ρ y d with | some ρ' => .nx ρ' | none => .st) | none => .st) | none => .st) | none => .st := id rfl
@[simp] theorem putAt_ev {i : Nat} {q : List Ix} {d0 : D} : putAt ρ (i, q, d0) d' = (setP q ((slD ρ[i]?).getD .non) d').map fun d' => (inv i ρ).set i (.ow d') := id rfl
@[simp] theorem setP_nil : setP [] d d' = some d' := by simp [setP]
@[simp] theorem setP_at {q : List Ix} {j : Nat} {ds : List D} : setP (.at j :: q) (.lst ds) d' = ds[j]?.bind fun d => (setP q d d').map fun d' => .lst (ds.set j d') := by simp [setP]
@[simp] theorem setP_key {q : List Ix} {k : Key} {ds : List (Key × D)} : setP (.key k :: q) (.dic ds) d' = (valD ds k).bind fun d => (setP q d d').map fun d' => .dic (putD ds k d') := by simp [setP]
@[simp] theorem setB_lst {ds : List D} {n : Int} {x : KD} : setB (.lst ds) (.int n) x = if okIn x.1 [x.2] = true then (ixN ds.length n).map fun j => .lst (ds.set j x.2) else none := id rfl
@[simp] theorem setB_dic {ds : List (Key × D)} {x : KD} : setB (.dic ds) d x = if okIn x.1 [x.2] = true then (keyD d).bind fun k => if ds.length < LIM then some (.dic (putD ds k x.2)) else none else none := id rfl
@[simp] theorem getB_lst {ds : List D} {n : Int} : getB (.lst ds) (.int n) = (ixN ds.length n).bind fun j => ds[j]? := id rfl
@[simp] theorem getB_dic {ds : List (Key × D)} : getB (.dic ds) d = (keyD d).bind fun k => valD ds k := id rfl
@[simp] theorem MTok_l {ds : List D} : MT.ok .l (.lst ds) = true := id rfl
@[simp] theorem MTok_d {ds : List (Key × D)} : MT.ok .d (.dic ds) = true := id rfl
@[simp] theorem opApp_ev {ds : List D} {x : KD} : opApp (.lst ds) [x] = if okIn x.1 [x.2] = true ∧ ds.length < LIM then some (.non, .lst (ds ++ [x.2])) else none := id rfl
@[simp] theorem opExt_ev {ds es : List D} : opExt (.lst ds) [(k, .lst es)] = if okIn k es = true ∧ ds.length + es.length ≤ LIM then some (.non, .lst (ds ++ es)) else none := id rfl
@[simp] theorem opIns_ev {ds : List D} {i : Int} {x : KD} : opIns (.lst ds) [(k, .int i), x] = if okIn x.1 [x.2] = true ∧ ds.length < LIM ∧ (0 ≤ i ∧ i ≤ 16777216) then some (.non, .lst (ds.take i.toNat ++ [x.2] ++ ds.drop i.toNat)) else none := id rfl
@[simp] theorem opPopI_ev {ds : List D} {i : Int} : opPopI (.lst ds) [(k, .int i)] = (ixN ds.length i).bind fun j => ds[j]?.bind fun x => if noL x = true ∧ ds.length ≤ LIM then some (x, .lst (ds.eraseIdx j)) else none := id rfl
@[simp] theorem opPop_ev {ds : List D} : opPop (.lst ds) [] = ds[ds.length - 1]?.bind fun x => if noL x = true then some (x, .lst ds.dropLast) else none := id rfl
@[simp] theorem opRev_ev {ds : List D} : opRev (.lst ds) [] = some (.non, .lst ds.reverse) := id rfl
@[simp] theorem mqE_ev {T : MT} {op : QOp} : mqE T a r op ρ = (a ρ).bind fun x => if T.ok x.2 = true then (r ρ).bind fun xs => (R.of (op x.2 (xs.map (·.2)))).bind fun d => .ok (.own, d) else .st := id rfl
@[simp] theorem opIdx_ev {ds : List D} : opIdx (.lst ds) [d] = (toPs ds).bind fun ps => (toP d).bind fun p => if SeqAt.shaped (.list ps) = true ∧ SeqAt.shaped p = true then (idxN p ps).map fun j : Nat => D.int j else none := id rfl
theorem tryS_ev {xs : List String} {hs : List (String × (Ec → SS))} : tryS xs s hs ρ = match s ρ with | .ex c ρ' => if xs.contains c.nm = true then hanS c hs ρ' else .st | o => o := id rfl
def Out.try (o : Out) (xs : List String) (hs : List (String × (Ec → SS))) : Out := match o with | .ex c ρ' => if xs.contains c.nm = true then hanS c hs ρ' else .st | o => o
@[simp] theorem tryS_ev' {xs : List String} {hs : List (String × (Ec → SS))} : tryS xs s hs ρ = (s ρ).try xs hs := id rfl
section
variable {xs : List String} {hs : List (String × (Ec → SS))}
@[simp] theorem try_nx : (Out.nx ρ).try xs hs = .nx ρ := id rfl
@[simp] theorem try_rt : (Out.rt k d).try xs hs = .rt k d := id rfl
@[simp] theorem try_bk : (Out.bk ρ).try xs hs = .bk ρ := id rfl
@[simp] theorem try_ct : (Out.ct ρ).try xs hs = .ct ρ := id rfl
@[simp] theorem try_st : Out.st.try xs hs = .st := id rfl
@[simp] theorem try_ex {c : Ec} : (Out.ex c ρ).try xs hs = if xs.contains c.nm = true then hanS c hs ρ else .st := id rfl
@[simp] theorem try_ite {q : Prop} [Decidable q] {x y : Out} : (if q then x else y).try xs hs = if q then x.try xs hs else y.try xs hs := by split <;> rfl
end
@[simp] theorem hanS_nil {c : Ec} : hanS c [] ρ = .ex c ρ := id rfl
@[simp] theorem hanS_cons {c : Ec} {D : String} {l : List (String × (Ec → SS))} {s : Ec → SS} : hanS c ((D, s) :: l) ρ = if subX c.nm D = true then (s c ρ).nox else hanS c l ρ := id rfl
@[simp] theorem nox_nx : (Out.nx ρ).nox = .nx ρ := id rfl
@[simp] theorem nox_rt : (Out.rt k d).nox = .rt k d := id rfl
@[simp] theorem nox_bk : (Out.bk ρ).nox = .bk ρ := id rfl
@[simp] theorem nox_ct : (Out.ct ρ).nox = .ct ρ := id rfl
@[simp] theorem nox_st : Out.st.nox = .st := id rfl
@[simp] theorem enumI_ev : enumI a ρ = (a ρ).bind fun x => match x.2 with | .lst ds => .ok (x.1, enumD 0 ds) | .scr ds => .ok (x.1, enumD 0 ds) | .tup ds => .ok (x.1, enumD 0 ds) | _ => .st := id rfl
@[simp] theorem rgE1_ev : rgE1 a ρ = (a ρ).bind fun x => match x.2 with | .int j => .ok ((0 : Int), j) | _ => .st := id rfl
@[simp] theorem rgE2_ev : rgE2 a b ρ = (a ρ).bind fun x => (b ρ).bind fun y => match x.2, y.2 with | .int i, .int j => .ok (i, j) | _, _ => .st := id rfl
@[simp] theorem revI_ev {g : SRg} : revI g ρ = (g ρ).bind fun x => if (rgOk x.1 && rgOk x.2) = true then .ok (.own, rngc (x.1 + (((x.2 - x.1).toNat : Nat) : Int) - 1) (-1) (x.2 - x.1).toNat) else .st := id rfl
@[simp] theorem lrgE_ev {g : SRg} : lrgE g ρ = (g ρ).bind fun x => if (rgOk x.1 && rgOk x.2) = true ∧ (x.2 - x.1).toNat ≤ LIM then .ok (.own, .lst (rng x.1 (x.2 - x.1).toNat)) else .st := id rfl
@[simp] theorem rngdI_ev : rngdI a b c ρ = (a ρ).bind fun x => (b ρ).bind fun y => (c ρ).bind fun z => match x.2, y.2, z.2 with | .int i, .int j, .int k => if k = -1 ∧ (rgOk i && rgOk j) = true then .ok (.own, rngc i (-1) (i - j).toNat) else if (0 < k ∧ k < 1073741824) ∧ (rgOk i && rgOk j) = true then .ok (.own, rngc i k (upN i j k)) else .st | _, _, _ => .st := id rfl
@[simp] theorem mvS_ev {i j : Nat} : mvS i j ρ = match ρ[j]? with | some (.ow d) => if i ≠ j ∧ i < ρ.length then .nx (((ρ.map (rlb j i)).set j (.bo [i] d)).set i (.ow d)) else .st | some (.bo is d) => .nx (ρ.set i (mkS (.bor is) d)) | _ => .st := id rfl
@[simp] theorem rlb_ow {i j : Nat} : rlb j i (.ow d) = .ow d := id rfl
@[simp] theorem rlb_no {i j : Nat} : rlb j i .no = .no := id rfl
@[simp] theorem rlb_bo {i j : Nat} : rlb j i (.bo is d) = .bo (is.map fun x => if x = j then i else x) d := id rfl
@[simp] theorem cmpB_ltT {l m : List D} : cmpB .Lt (.tup l) (.tup m) = (intsD l).bind fun ns => (intsD m).map fun ms => HT.lexLt ns ms := id rfl
@[simp] theorem cmpB_leT {l m : List D} : cmpB .LtE (.tup l) (.tup m) = (intsD l).bind fun ns => (intsD m).map fun ms => leT ns ms := id rfl
@[simp] theorem trgE_ev {g : SRg} : trgE g ρ = (g ρ).bind fun x => if (rgOk x.1 && rgOk x.2) = true ∧ (x.2 - x.1).toNat ≤ LIM then .ok (.own, .tup (rng x.1 (x.2 - x.1).toNat)) else .st := id rfl
@[simp] theorem callV_ev {i : Nat} {cs : List (String × Fn)} : callV i cs r ρ = match slD ρ[i]? with | some (.fn x) => (match cs.lookup x with | some fn => callE fn r [] ρ | none => .st) | _ => .st := id rfl
@[simp] theorem mkS_fn {x : String} : mkS .own (.fn x) = .ow (.fn x) := id rfl
@[simp] theorem mkS_fnb {x : String} : mkS (.bor is) (.fn x) = .bo is (.fn x) := id rfl
@[simp] theorem noL_fn {x : String} : noL (.fn x) = true := by simp [noL]
@[simp] theorem bSrt_ev {ds : List D} : bSrt [(k, .lst ds)] = (intsD ds).map fun ns => (.own, .lst ((srtI ns).map D.int)) := id rfl
@[simp] theorem lsetE_ev : lsetE a ρ = (a ρ).bind fun x => match x.2 with | .lst ds => (match intsD ds with | some ns => if ns.length ≤ 1000 then .ok (.own, .int (ddI ns).length) else .st | none => .st) | .tup ds => (match intsD ds with | some ns => if ns.length ≤ 1000 then .ok (.own, .int (ddI ns).length) else .st | none => .st) | _ => .st := id rfl
@[simp] theorem dntE_ev : dntE ρ = .ok (.own, .dtk []) := id rfl
@[simp] theorem mkS_ownK {ds : List (List Key × D)} : mkS .own (.dtk ds) = .ow (.dtk ds) := id rfl
@[simp] theorem mkS_borK {ds : List (List Key × D)} : mkS (.bor is) (.dtk ds) = .bo is (.dtk ds) := id rfl
@[simp] theorem noL_dtk {l : List (List Key × D)} : noL (.dtk l) = false := by simp [noL]
@[simp] theorem noL_obj {t : Nat} {C : String} {l : List (Str × D)} : noL (.obj t C l) = false := by simp [noL]
@[simp] theorem noL_sob {C : String} {l : List (Str × D)} : noL (.sob C l) = true := by simp [noL]
@[simp] theorem noL_fdc {l : List (Key × D)} : noL (.fdc l) = true := by simp [noL]
@[simp] theorem noL_scr {l : List D} : noL (.scr l) = false := by simp [noL]
@[simp] theorem nk_dtk {l : List (List Key × D)} : nk k (.dtk l) = k := by simp [nk]
@[simp] theorem keyT_tup {l : List D} : keyT (.tup l) = keysT l := id rfl
@[simp] theorem keysT_nil : keysT [] = some [] := id rfl
theorem keysT_cons {l : List D} : keysT (d :: l) = (match keyD d, keysT l with | some k, some ks => some (k :: ks) | _, _ => none) := id rfl
@[simp] theorem keysT_int {l : List D} {i : Int} : keysT (.int i :: l) = (keysT l).map (.inl i :: ·) := by rw [keysT_cons]; cases keysT l <;> rfl
@[simp] theorem keysT_str {l : List D} {i : Str} : keysT (.str i :: l) = (keysT l).map (.inr i :: ·) := by rw [keysT_cons]; cases keysT l <;> rfl
@[simp] theorem keysT_ints : ∀ l : List Int, keysT (l.map D.int) = some (l.map Sum.inl)
  | [] => rfl
  | i :: l => by rw [List.map_cons, keysT_int, keysT_ints l]; rfl
@[simp] theorem inD_dtk {l : List (List Key × D)} : inD d (.dtk l) = (keyT d).map fun k => (valD l k).isSome := id rfl
@[simp] theorem inD_fdc {l : List (Key × D)} : inD d (.fdc l) = (keyD d).map fun k => (valD l k).isSome := id rfl
@[simp] theorem idxB_dtk {l : List (List Key × D)} : idxB (k, .dtk l) d = (keyT d).bind fun q => (valD l q).map fun d => (k, d) := by cases d <;> rfl
@[simp] theorem idxB_fdc {l : List (Key × D)} : idxB (k, .fdc l) d = (keyD d).bind fun q => (valD l q).map fun d => (.own, d) := by cases d <;> rfl
@[simp] theorem setB_dtk {ds : List (List Key × D)} {x : KD} : setB (.dtk ds) d x = if okIn x.1 [x.2] = true then (keyT d).bind fun k => if ds.length < LIM then some (.dtk (putD ds k x.2)) else none else none := id rfl
theorem bSrtA_ints (l : List Int) : bSrtA [(k, .lst (l.map D.int))] = some (.own, .lst ((srtI l).map D.int)) := by simp [bSrtA]
theorem bSrtA_tups {l : List (List Int)} (h : oneL l = true) : bSrtA [(k, .lst (l.map fun r => D.tup (r.map D.int)))] = some (.own, .lst ((srtT l).map fun r => D.tup (r.map D.int))) := by
  cases l with
  | nil => rfl
  | cons r l =>
    have e : intsD ((r :: l).map fun r => D.tup (r.map D.int)) = none := by simp [intsD]
    have e2 := tupsD_map (r :: l)
    simp only [bSrtA, e, e2, h, if_true]
theorem bSrtA_dtk {kvs : List (List Key × D)} {l : List (List Int)} (hk : kvs.map (·.1) = l.map fun k => k.map Sum.inl) (h : oneL l = true) : bSrtA [(k, .dtk kvs)] = some (.own, .lst ((srtT l).map fun r => D.tup (r.map D.int))) := by
  have e2 := keysI_map l
  simp only [bSrtA, hk, e2, h, if_true]
end
end Cz
set_option maxHeartbeats 1000000
/-! Ev1c: changing expressions by rewriting. -/
namespace Cz
open PySem PySem.Spec PyProof.Rows L2
section
variable {ρ : Env} {a b c : SE} {s s' : SS} {k k' : Kd} {d d' : D} {is : List Nat} {p : SPh} {r : SA} {m : SM} {f : Env → Kd → D → Out} {g : Tgt}
@[simp] theorem mE_ev : mE a ρ = (a ρ).out ρ fun x => .ri ρ x.1 x.2 := id rfl
@[simp] theorem asgM_ev : asgM g m ρ = (m ρ).thenM fun ρ k d => match g k d ρ with | some ρ' => .nx ρ' | none => .st := id rfl
@[simp] theorem dropM_ev : dropM m ρ = (m ρ).thenM fun ρ _ _ => .nx ρ := id rfl
@[simp] theorem retM_ev : retM m ρ = (m ρ).thenM fun _ k d => .rt k d := id rfl
@[simp] theorem retI_ev : retI m ρ = (m ρ).thenM fun ρ k d => .ri ρ k d := id rfl
@[simp] theorem ifM_ev : ifM m s s' ρ = (m ρ).thenM fun ρ _ d => match d with | .bl true => s ρ | .bl false => s' ρ | _ => .st := id rfl
@[simp] theorem thenM_ri : (Out.ri ρ k d).thenM f = f ρ k d := id rfl
@[simp] theorem thenM_ex {c : Ec} : (Out.ex c ρ).thenM f = .ex c ρ := id rfl
@[simp] theorem thenM_st : Out.st.thenM f = .st := id rfl
@[simp] theorem thenM_ite {q : Prop} [Decidable q] {x y : Out} : (if q then x else y).thenM f = if q then x.thenM f else y.thenM f := by split <;> rfl
@[simp] theorem mtM_ev {T : MT} {op : MOp} : mtM T p r op ρ = (p ρ).out ρ fun x => if T.ok x.2.2 = true then (r ρ).out ρ fun xs => match op x.2.2 xs with | some y => (match putAt ρ x y.2 with | some ρ' => .ri ρ' .own y.1 | none => .st) | none => .st else .st := id rfl
theorem lcM_ev {it : SI} {own : List Nat} : lcM it own g m ρ = (it ρ).out ρ fun kds => if kds.1.is.all (fun j => decide (j < ρ.length)) = true ∧ own.all (notOw (frz kds.1.is ρ)) = true ∧ kds.2.length ≤ LIM ∧ bosOk (wipE (frz kds.1.is ρ) own) = true then match lcN g m own (wipE (frz kds.1.is ρ) own) kds.2 with | some (ρ', xs) => .ri ρ' .own (.lst xs) | none => .st else .st := id rfl
theorem lcN_nil {own : List Nat} : lcN g m own ρ [] = some (ρ, []) := rfl
theorem lcN_cons {own : List Nat} {ds : List D} : lcN g m own ρ (d :: ds) = match g (.bor []) d ρ with | none => none | some ρ1 => match m ρ1 with | .ri ρ2 _ x => if noL x = true ∧ own.all (notOw ρ2) = true ∧ bosOk (wipE ρ2 own) = true ∧ (wipE ρ2 own).length = ρ.length then (match lcN g m own (wipE ρ2 own) ds with | some (ρ3, xs) => some (ρ3, x :: xs) | none => none) else none | _ => none := rfl
theorem bosOk_ev : bosOk ρ = ρ.all fun s => match s with | .bo is _ => is.all fun j => decide (j < ρ.length) | _ => true := rfl
@[simp] theorem seq_ri {f : Env → Out} : (Out.ri ρ k d).seq f = .ri ρ k d := id rfl
@[simp] theorem turn_ri {f : Env → Out} : (Out.ri ρ k d).turn f = .ri ρ k d := id rfl
@[simp] theorem try_ri {xs : List String} {hs : List (String × (Ec → SS))} : (Out.ri ρ k d).try xs hs = .ri ρ k d := id rfl
@[simp] theorem nox_ri : (Out.ri ρ k d).nox = .ri ρ k d := id rfl
end
end Cz
set_option maxHeartbeats 1000000
/-! Ev1d: the evaluator by rewriting, texts. -/
namespace Cz
open PySem PySem.Spec PyProof.Rows L2
section
variable {ρ : Env} {a b : SE} {k : Kd} {z : Str} {ds : List D} {r : SA} {s : SS}
@[simp] theorem revlE_ev : revlE a ρ = (a ρ).bind fun x => R.of (revD x) := id rfl
@[simp] theorem revD_ev : revD (k, .lst ds) = some (lk k ds.reverse, .lst ds.reverse) := id rfl
@[simp] theorem joinE_ev : joinE a b ρ = (a ρ).bind fun x => match x.2 with | .str z => (b ρ).bind fun y => R.of (joinB z y.2) | _ => .st := id rfl
@[simp] theorem splitE_ev : splitE a b ρ = (a ρ).bind fun x => match x.2 with | .str z => (b ρ).bind fun y => R.of (splitB z y.2) | _ => .st := id rfl
theorem joinB_l {ys : List Str} (h : (ys.map (·.length)).sum + ys.length * z.length ≤ 16777216) : joinB z (.lst (ys.map D.str)) = some (.own, .str (Txt.join z ys)) := by
  show (strsD _).bind _ = _
  rw [strsD_map]
  exact if_pos h
@[simp] theorem splitB_ev {b : Str} : splitB z (.str b) = if b.length ≠ 0 ∧ z.length + 2 ≤ LIM then some (.own, .lst ((Txt.split z b).map D.str)) else none := id rfl
@[simp] theorem callO_ev {fn : Fn} {i : Nat} : callO fn i r ρ = (r ρ).bind fun xs => match splO i xs with | some k => (fn (xs.map (·.2))).bind fun kd => .ok (retK kd.1 k, kd.2) | none => .st := id rfl
@[simp] theorem splO_0 {x : KD} {xs : List KD} : splO 0 (x :: xs) = if ownK (nk x.1 x.2) = true ∧ noLs (xs.map (·.2)) = true then some .own else none := id rfl
@[simp] theorem splO_s {i : Nat} {x : KD} {xs : List KD} : splO (i + 1) (x :: xs) = (splO i xs).map fun k => (nk x.1 x.2).join k := id rfl
theorem recO_s {i n m j : Nat} {b : Fn → SS} : recO i n m b (j + 1) = mkO i n m (b (recO i n m b j)) := rfl
theorem recO_0 {i n m : Nat} {b : Fn → SS} : recO i n m b 0 = mkO i n m (fun _ => .st) := rfl
@[simp] theorem ownK_own : ownK .own = true := id rfl
theorem mkO_ev {i n m : Nat} : mkO i n m s ds = if ds.length = n then runO i m s ds else .st := id rfl
@[simp] theorem runO_ev {i m : Nat} : runO i m s ds = (s (slO i ds ++ List.replicate (m - ds.length) .no)).fin := id rfl
@[simp] theorem slO_0 {d : D} : slO 0 (d :: ds) = mkS .own d :: ds.map (Sl.bo []) := id rfl
@[simp] theorem slO_s {i : Nat} {d : D} : slO (i + 1) (d :: ds) = .bo [] d :: slO i ds := id rfl
end
end Cz
set_option maxHeartbeats 1000000
/-! Ev1e: the evaluator by rewriting, instances. -/
namespace Cz
open PySem PySem.Spec PyProof.Rows L2
section
variable {ρ : Env} {a b : SE} {k : Kd} {C C' m : String} {f : Str} {d : D} {t : Nat} {fs fs' : List (Str × D)} {cs : List String} {s : SS} {r : SA} {c : Ec} {p : SPh}
@[simp] theorem fldE_ev : fldE cs f a ρ = (a ρ).bind fun x => R.of (fldB cs f x) := id rfl
@[simp] theorem fldB_obj : fldB cs f (k, .obj t C fs) = if cs.contains C = true then (valD fs f).map fun d => (k, d) else none := id rfl
@[simp] theorem fldB_sob : fldB cs f (k, .sob C fs) = if cs.contains C = true then (valD fs f).map fun d => (.own, d) else none := id rfl
@[simp] theorem fldP_ev : fldP cs f p ρ = (p ρ).bind fun x => match x.2.2 with
  | .obj _ C fs => if cs.contains C = true then (match valD fs f with
    | some d => .ok (x.1, x.2.1 ++ [.fld f], d)
    | none => .st) else .st
  | _ => .st := id rfl
@[simp] theorem stfS_ev : stfS cs p f b ρ = (b ρ).out ρ fun x => (p ρ).out ρ fun y => match y.2.2 with
  | .obj t C fs => if cs.contains C = true ∧ okIn x.1 [x.2] = true ∧ fs.length < 1000 then (match putAt ρ y (.obj t C (putD fs f x.2)) with
    | some ρ' => .nx ρ'
    | none => .st) else .st
  | _ => .st := id rfl
@[simp] theorem callX_ev {cs : List (String × Fn)} : callX a cs r ρ = (a ρ).bind fun kd => callXd cs r kd.2 ρ := id rfl
@[simp] theorem callXd_fn {cs : List (String × Fn)} {x : String} : callXd cs r (.fn x) ρ = (match cs.lookup x with | some fn => callE fn r [] ρ | none => .st) := id rfl
@[simp] theorem stS_ev : stS ρ = .st := id rfl
@[simp] theorem tgF_ev {i : Nat} {u : Tgts} {d0 : D} {ds : List D} : tgF i u .own (.tup (d0 :: ds)) ρ = if noLs ds = true then u [] ds (ρ.set i (mkS .own d0)) else none := id rfl
theorem mkG_ev {n j : Nat} {ds : List D} : mkG C n j s t fs ds = if ds.length + 1 = n then runG C j s t fs ds else .st := id rfl
theorem runG_ev {j : Nat} {ds : List D} : runG C j s t fs ds = (s (.ow (.obj t C fs) :: (ds.map (Sl.bo []) ++ List.replicate (j - (ds.length + 1)) .no))).finG t C := id rfl
@[simp] theorem finG_nx : (Out.nx ρ).finG t C = finG t C ρ .non := id rfl
@[simp] theorem finG_ri : (Out.ri ρ k d).finG t C = if ownK k = true then finG t C ρ d else .st := id rfl
@[simp] theorem finG_ex : (Out.ex c ρ).finG t C = exG t C ρ c := id rfl
@[simp] theorem finG_ow : finG t C (.ow (.obj t C fs) :: ρ) d = .ok fs d := by simp [finG, selfG]
@[simp] theorem exG_ow : exG t C (.ow (.obj t C fs) :: ρ) c = .ex c fs := by simp [exG, selfG]
@[simp] theorem rmE_ev {fn : Fn} : rmE C m fn a r ρ = (a ρ).bind fun x => match x.2 with
  | .obj _ C' fs => if C' = C ∧ noKey fs (Str.ofString m) = true then (r ρ).bind fun xs => rmK C m fn x xs else .st
  | .sob C' fs => if C' = C ∧ noKey fs (Str.ofString m) = true then (r ρ).bind fun xs => rmK C m fn x xs else .st
  | _ => .st := id rfl
@[simp] theorem rmK_ev {fn : Fn} {x : KD} {xs : List KD} : rmK C m fn x xs = (fn (x.2 :: xs.map (·.2))).bind fun kd => .ok (retK kd.1 (jn (x :: xs)), kd.2) := id rfl
theorem mkE_ev {g : GFn} : mkE C g r ρ = (r ρ).bind fun xs => match allG fun t => g t [] (xs.map (·.2)) with
  | .ok fs' .non => .ok (.own, .obj 0 C fs')
  | .ex c _ => .ex c
  | _ => .st := id rfl
theorem mkzE_ev {g : GFn} : mkzE C g r ρ = (r ρ).bind fun xs => match allG fun t => g t [] (xs.map (·.2)) with
  | .ok fs' .non => R.of ((sealF fs').map fun fs2 => (Kd.own, D.sob C fs2))
  | .ex c _ => .ex c
  | _ => .st := id rfl
@[simp] theorem itmI_ev : itmI a ρ = (a ρ).bind fun x => match x.2 with
  | .fdc kvs => .ok (.own, itmD kvs)
  | _ => .st := id rfl
@[simp] theorem litE_ev : litE a ρ = (a ρ).bind fun x => match x.2 with
  | .fdc kvs => .ok (.own, .lst (itmD kvs))
  | .dic kvs => if noLs (kvs.map (·.2)) = true then .ok (.own, .lst (itmD kvs)) else .st
  | _ => .st := id rfl
@[simp] theorem svlE_ev : svlE a ρ = (a ρ).bind fun x => match x.2 with
  | .fdc kvs => R.of ((intsD (kvs.map (·.2))).map fun ns => ((Kd.own, D.int ns.sum) : KD))
  | .dic kvs => R.of ((intsD (kvs.map (·.2))).map fun ns => ((Kd.own, D.int ns.sum) : KD))
  | _ => .st := id rfl
@[simp] theorem retNI_ev : retNI ρ = .ri ρ .own .non := id rfl
@[simp] theorem retP_ev : retP a ρ = (a ρ).out ρ fun x => .ri ρ (nk x.1 x.2) x.2 := id rfl
@[simp] theorem tapS_ev : tapS a b ρ = (a ρ).out ρ fun x => match x with
  | (.own, .lst ds) => (b ρ).out ρ fun y => if okIn y.1 [y.2] = true ∧ ds.length < LIM then .nx ρ else .st
  | _ => .st := id rfl
@[simp] theorem lsetSE_ev : lsetSE a ρ = (a ρ).bind fun x => match x.2 with
  | .lst ds => (match strsD ds with
    | some xs => if xs.length ≤ 1000 then .ok (.own, .int (ddS xs).length) else .st
    | none => .st)
  | _ => .st := id rfl
@[simp] theorem valD_nil {κ : Type} [DecidableEq κ] {q : κ} : valD ([] : List (κ × D)) q = none := id rfl
@[simp] theorem valD_cons {κ : Type} [DecidableEq κ] {q x : κ} {r : List (κ × D)} : valD ((x, d) :: r) q = if x = q then some d else valD r q := id rfl
@[simp] theorem putD_nil {κ : Type} [DecidableEq κ] {q : κ} : putD ([] : List (κ × D)) q d = [(q, d)] := id rfl
theorem putD_new {κ : Type} [DecidableEq κ] {q : κ} {r : List (κ × D)} (h : ∀ p ∈ r, p.1 ≠ q) : putD r q d = r ++ [(q, d)] := by
  unfold putD
  rw [if_neg (fun z => by obtain ⟨p, h1, h2⟩ := List.any_eq_true.mp z; exact h p h1 (of_decide_eq_true h2))]
@[simp] theorem mkS_ownSo : mkS .own (.sob C fs) = .ow (.sob C fs) := id rfl
@[simp] theorem mkS_borSo {is : List Nat} : mkS (.bor is) (.sob C fs) = .bo is (.sob C fs) := id rfl
@[simp] theorem mkS_ownF {kvs : List (Key × D)} : mkS .own (.fdc kvs) = .ow (.fdc kvs) := id rfl
@[simp] theorem mkS_borF {is : List Nat} {kvs : List (Key × D)} : mkS (.bor is) (.fdc kvs) = .bo is (.fdc kvs) := id rfl
@[simp] theorem mkS_ownO : mkS .own (.obj t C fs) = .ow (.obj t C fs) := id rfl
@[simp] theorem mkS_borO {is : List Nat} : mkS (.bor is) (.obj t C fs) = .bo is (.obj t C fs) := id rfl
@[simp] theorem nk_sob : nk k (.sob C fs) = .own := nk_noL (by simp [noL])
@[simp] theorem nk_fdc {kvs : List (Key × D)} : nk k (.fdc kvs) = .own := nk_noL (by simp [noL])
@[simp] theorem isNon_sob : isNon (.sob C fs) = false := id rfl
@[simp] theorem isNon_obj : isNon (.obj t C fs) = false := id rfl
@[simp] theorem opB_mulS {z : Str} {k' : Kd} {j : Int} : opB .Mult (k, .str z) (k', .int j) = if 2 ≤ j ∧ j ≤ 1000 ∧ 1 ≤ z.length ∧ z.length ≤ 1000 then some (.own, .str (strMul z j.toNat)) else none := id rfl
end
end Cz
set_option maxHeartbeats 1000000
/-! Ev1f: the evaluator by rewriting: counts, dicts of pairs. -/
namespace Cz
open PySem PySem.Spec PyProof.Rows L2
section
variable {ρ : Env} {a b : SE} {k : Kd}
@[simp] theorem swpS_ev {i j : Nat} {r : SA} : swpS i j r ρ = (r ρ).out ρ fun xs => match xs with | [x, y] => if noL x.2 = true ∧ noL y.2 = true then .nx ((ρ.set i (mkS .own x.2)).set j (mkS .own y.2)) else .st | _ => .st := id rfl
@[simp] theorem opCntS_ev {ds : List D} {x : Str} : opCntS (.lst ds) [.str x] = (strsD ds).map fun ys => D.int (ys.count x : Nat) := id rfl
@[simp] theorem bDct_ev {ds : List D} : bDct [(k, .lst ds)] = (prsD ds).map fun l => (.own, .dic (kvI (mgI [] l))) := id rfl
end
theorem mgI_nd : ∀ (l acc : List (Str × Int)), ((acc ++ l).map (·.1)).Nodup → mgI acc l = acc ++ l
  | [], acc, _ => by simp [mgI]
  | p :: l, acc, n => by
    have : putI acc p.1 p.2 = acc ++ [p] := by
      unfold putI
      rw [if_neg]
      intro z
      obtain ⟨q, h1, h2⟩ := List.any_eq_true.mp z
      have h2 := of_decide_eq_true h2
      rw [List.map_append, List.nodup_append] at n
      exact n.2.2 q.1 (List.mem_map_of_mem h1) p.1 (by simp) h2
    show mgI (putI acc p.1 p.2) l = _
    rw [this, mgI_nd l (acc ++ [p]) (by simpa using n)]
    simp
end Cz
set_option maxHeartbeats 1000000
/-! Ev2: lists by places, slices, equality, sizes of numbers. -/
namespace Cz
open PySem PySem.Spec PyProof.Rows L2
/-! places -/
theorem atI_map {α β : Type} (f : α → β) (l : List α) (i : Int) : atI (l.map f) i = (atI l i).map f := by
  unfold atI
  rw [List.length_map]
  cases ixN l.length i with
  | none => rfl
  | some j => simp
theorem atI_lit {α : Type} (l : List α) (n : Nat) : atI l ((OfNat.ofNat n : Nat) : Int) = l[n]? := by
  show atI l (n : Int) = l[n]?
  cases h : l[n]? with
  | some v => exact atI_nat h
  | none =>
    unfold atI ixN
    have : l.length ≤ n := by simpa using h
    rw [if_pos (by omega), if_neg (by omega)]
    rfl
theorem atI_nn {α : Type} (l : List α) (i : Int) (h : 0 ≤ i) : atI l i = l[i.toNat]? := by
  have := atI_lit l i.toNat
  have e : ((OfNat.ofNat i.toNat : Nat) : Int) = i := by show ((i.toNat : Nat) : Int) = i; omega
  rw [e] at this
  exact this
theorem atI_neg1 {α : Type} (l : List α) : atI l (-1) = l.getLast? := by
  rcases List.eq_nil_or_concat l with h | ⟨r, x, h⟩
  · subst h; rfl
  · subst h; rw [List.concat_eq_append, atI_last]; simp
@[simp] theorem atI_0 {α : Type} (l : List α) : atI l 0 = l[0]? := atI_lit l 0
@[simp] theorem atI_1 {α : Type} (l : List α) : atI l 1 = l[1]? := atI_lit l 1
@[simp] theorem atI_ofNat {α : Type} (l : List α) (n : Nat) : atI l (no_index (@OfNat.ofNat Int n instOfNat)) = l[(OfNat.ofNat n : Nat)]? := atI_lit l n
@[simp] theorem atI_m1 {α : Type} (l : List α) : atI l (-1) = l.getLast? := atI_neg1 l
/-! slices -/
theorem sIx_pos (n d : Nat) (i : Int) (h : 0 ≤ i) : HT.sIx n d (some i) = min i.toNat n := by
  show (if i < 0 then (i + (n : Int)).toNat else min i.toNat n) = _
  rw [if_neg (by omega)]
theorem sIx_m1 (n d : Nat) : HT.sIx n d (some (-1)) = n - 1 := by
  show (if (-1 : Int) < 0 then ((-1 : Int) + (n : Int)).toNat else min (-1 : Int).toNat n) = _
  rw [if_pos (by decide)]; omega
theorem cut_from (l : List D) (i : Int) (h : 0 ≤ i) : cutD l (some i) none = l.drop i.toNat := by
  unfold cutD
  rw [HT.sIx_none, sIx_pos _ _ _ h]
  by_cases hl : i.toNat ≤ l.length
  · rw [Nat.min_eq_left hl]; exact List.take_of_length_le (by simp)
  · rw [Nat.min_eq_right (by omega), List.drop_of_length_le (i := i.toNat) (by omega)]; simp
theorem cut_to (l : List D) (i : Int) (h : 0 ≤ i) : cutD l none (some i) = l.take i.toNat := by
  unfold cutD
  rw [HT.sIx_none, sIx_pos _ _ _ h]
  simp only [List.drop_zero, Nat.sub_zero]
  rw [List.take_eq_take_iff]; omega
theorem cut_both (l : List D) (i j : Int) (h : 0 ≤ i) (h' : 0 ≤ j) : cutD l (some i) (some j) = (l.take j.toNat).drop i.toNat := by
  unfold cutD
  rw [sIx_pos _ _ _ h, sIx_pos _ _ _ h']
  apply List.ext_getElem?
  intro n
  simp only [List.getElem?_take, List.getElem?_drop]
  by_cases h1 : i.toNat ≤ l.length
  · by_cases h2 : j.toNat ≤ l.length
    · rw [Nat.min_eq_left h1, Nat.min_eq_left h2]
      by_cases h3 : n < j.toNat - i.toNat
      · rw [if_pos h3, if_pos (by omega)]
      · rw [if_neg h3, if_neg (by omega)]
    · rw [Nat.min_eq_left h1, Nat.min_eq_right (by omega)]
      by_cases h3 : n < l.length - i.toNat
      · rw [if_pos h3, if_pos (by omega)]
      · rw [if_neg h3]
        split
        · rw [List.getElem?_eq_none (by omega)]
        · rfl
  · rw [Nat.min_eq_right (by omega : l.length ≤ i.toNat)]
    have e1 : l[i.toNat + n]? = none := List.getElem?_eq_none (by omega)
    have e2 : l[l.length + n]? = none := List.getElem?_eq_none (by omega)
    rw [e1, e2]
    split <;> split <;> rfl
/-- [:-1] -/
theorem cut_init (l : List D) : cutD l none (some (-1)) = l.dropLast := by
  unfold cutD
  rw [HT.sIx_none, sIx_m1, List.dropLast_eq_take]
  rfl
@[simp] theorem noLs_take {l : List D} {n : Nat} (h : noLs l = true) : noLs (l.take n) = true := by
  induction l generalizing n with
  | nil => simp
  | cons x l ih => cases n with
    | zero => simp
    | succ n => simp at h ⊢; exact ⟨h.1, ih h.2⟩
@[simp] theorem noLs_drop {l : List D} {n : Nat} (h : noLs l = true) : noLs (l.drop n) = true := by
  induction l generalizing n with
  | nil => simp
  | cons x l ih => cases n with
    | zero => simpa using h
    | succ n => simp at h ⊢; exact ih h.2
/-! ranges -/
@[simp] theorem rng_len (lo : Int) (n : Nat) : (rng lo n).length = n := by simp [rng]
theorem rgOk_of {i : Int} (h1 : -4611686018427387904 ≤ i) (h2 : i < 4611686018427387904) : rgOk i = true := by
  unfold rgOk
  rw [@decide_eq_true _ (Classical.propDecidable _) (by omega), @decide_eq_true _ (Classical.propDecidable _) (by omega)]
  rfl
@[simp] theorem noLs_rng (lo : Int) (n : Nat) : noLs (rng lo n) = true := by
  have : rng lo n = ((List.range n).map fun (i : Nat) => lo + (i : Int)).map D.int := by simp [rng, Function.comp]
  rw [this]; exact noLs_ints _
/-! comprehensions -/
theorem lcL_map {α : Type} {tg : Tgt} {elt : SE} {k : Kd} {ρ : Env} {f : α → D} {g : α → KD} : ∀ {l : List α}, (∀ a ∈ l, ∃ ρ1, tg (.bor k.is) (f a) ρ = some ρ1 ∧ elt ρ1 = .ok (g a)) → lcL tg yesT elt k ρ (l.map f) = .ok (l.map g)
  | [], _ => rfl
  | a :: l, h => by
    obtain ⟨ρ1, h1, h2⟩ := h a List.mem_cons_self
    have ih := lcL_map (l := l) fun a ha => h a (List.mem_cons_of_mem _ ha)
    rw [List.map_cons, lcL, h1]
    simp only [yesT_ev, R.bind_ok, if_true, h2, ih, List.map_cons]
theorem lcL_filter {α : Type} {tg : Tgt} {ifs : STs} {elt : SE} {k : Kd} {ρ : Env} {f : α → D} {p : α → Bool} {g : α → KD} : ∀ {l : List α}, (∀ a ∈ l, ∃ ρ1, tg (.bor k.is) (f a) ρ = some ρ1 ∧ ifs ρ1 = .ok (p a) ∧ (p a = true → elt ρ1 = .ok (g a))) →
    lcL tg ifs elt k ρ (l.map f) = .ok ((l.filter p).map g)
  | [], _ => rfl
  | a :: l, h => by
    obtain ⟨ρ1, h1, h2, h3⟩ := h a List.mem_cons_self
    have ih := lcL_filter (l := l) fun a ha => h a (List.mem_cons_of_mem _ ha)
    rw [List.map_cons, lcL, h1]
    simp only [h2, R.bind_ok]
    cases hp : p a with
    | true => simp [h3 hp, ih, hp]
    | false => simp [ih, hp]
theorem jn_own {xs : List KD} (h : ∀ x ∈ xs, x.1 = .own) : jn xs = .own := by
  induction xs with
  | nil => rfl
  | cons x xs ih => simp [h x List.mem_cons_self, ih fun y hy => h y (List.mem_cons_of_mem _ hy)]
theorem noLs_map {α : Type} {f : α → D} {l : List α} (h : ∀ a ∈ l, noL (f a) = true) : noLs (l.map f) = true := by
  induction l with
  | nil => simp
  | cons x l ih => simp [h x List.mem_cons_self, ih fun y hy => h y (List.mem_cons_of_mem _ hy)]
section
variable {α : Type} {it : SI} {own : List Nat} {tg : Tgt} {ifs : STs} {elt : SE} {ρ : Env} {k : Kd} {l : List α} {f h : α → D} {p : α → Bool}
/-- [e for x in l], e without lists -/
theorem lcE_noL (hit : it ρ = .ok (k, l.map f)) (hown : own.all (notOw ρ) = true) (hlen : l.length ≤ 16777216) (hh : ∀ a ∈ l, ∃ ρ1 k', tg (.bor k.is) (f a) (wipE ρ own) = some ρ1 ∧ elt ρ1 = .ok (k', h a) ∧ noL (h a) = true) :
    lcE it own tg yesT elt ρ = .ok (.own, .lst (l.map h)) := by
  have hk : ∀ a : α, ∃ k', a ∈ l → ∃ ρ1, tg (.bor k.is) (f a) (wipE ρ own) = some ρ1 ∧ elt ρ1 = .ok (k', h a) := fun a => by
    by_cases ha : a ∈ l
    · obtain ⟨ρ1, k', h1, h2, _⟩ := hh a ha; exact ⟨k', fun _ => ⟨ρ1, h1, h2⟩⟩
    · exact ⟨.own, fun z => absurd z ha⟩
  have := lcL_map (tg := tg) (elt := elt) (k := k) (ρ := wipE ρ own) (f := f) (l := l) (g := fun a => ((hk a).choose, h a)) fun a ha => (hk a).choose_spec ha
  rw [lcE_ev, hit]
  simp only [R.bind_ok]
  rw [if_pos ⟨hown, by simpa using hlen⟩, this]
  simp only [noex_ok, R.bind_ok, List.map_map, Function.comp_def]
  rw [lk_noL (noLs_map fun a ha => let ⟨_, _, _, _, z⟩ := hh a ha; z)]
/-- [e for x in l], e new each time -/
theorem lcE_own (hit : it ρ = .ok (k, l.map f)) (hown : own.all (notOw ρ) = true) (hlen : l.length ≤ 16777216) (hh : ∀ a ∈ l, ∃ ρ1, tg (.bor k.is) (f a) (wipE ρ own) = some ρ1 ∧ elt ρ1 = .ok (.own, h a)) :
    lcE it own tg yesT elt ρ = .ok (.own, .lst (l.map h)) := by
  have := lcL_map (tg := tg) (elt := elt) (k := k) (ρ := wipE ρ own) (f := f) (l := l) (g := fun a => (.own, h a)) hh
  rw [lcE_ev, hit]
  simp only [R.bind_ok]
  rw [if_pos ⟨hown, by simpa using hlen⟩, this]
  simp only [noex_ok, R.bind_ok, List.map_map, Function.comp_def]
  rw [jn_own (by intro x hx; obtain ⟨a, _, e⟩ := List.mem_map.mp hx; rw [← e])]
  simp
/-- [e for x in l if c], e without lists -/
theorem lcE_filter (hit : it ρ = .ok (k, l.map f)) (hown : own.all (notOw ρ) = true) (hlen : l.length ≤ 16777216) (hh : ∀ a ∈ l, ∃ ρ1, tg (.bor k.is) (f a) (wipE ρ own) = some ρ1 ∧ ifs ρ1 = .ok (p a) ∧ (p a = true → ∃ k', elt ρ1 = .ok (k', h a) ∧ noL (h a) = true)) :
    lcE it own tg ifs elt ρ = .ok (.own, .lst ((l.filter p).map h)) := by
  have hk : ∀ a : α, ∃ k', a ∈ l → ∃ ρ1, tg (.bor k.is) (f a) (wipE ρ own) = some ρ1 ∧ ifs ρ1 = .ok (p a) ∧ (p a = true → elt ρ1 = .ok (k', h a)) := fun a => by
    by_cases ha : a ∈ l
    · obtain ⟨ρ1, h1, h2, h3⟩ := hh a ha
      cases hp : p a with
      | true => obtain ⟨k', h4, _⟩ := h3 hp; exact ⟨k', fun _ => ⟨ρ1, h1, by rw [h2, hp], fun _ => h4⟩⟩
      | false => exact ⟨.own, fun _ => ⟨ρ1, h1, by rw [h2, hp], fun z => by cases z⟩⟩
    · exact ⟨.own, fun z => absurd z ha⟩
  have := lcL_filter (tg := tg) (ifs := ifs) (elt := elt) (k := k) (ρ := wipE ρ own) (f := f) (l := l) (p := p) (g := fun a => ((hk a).choose, h a)) fun a ha => (hk a).choose_spec ha
  rw [lcE_ev, hit]
  simp only [R.bind_ok]
  rw [if_pos ⟨hown, by simpa using hlen⟩, this]
  simp only [noex_ok, R.bind_ok, List.map_map, Function.comp_def]
  rw [lk_noL (noLs_map fun a ha => let ⟨_, _, _, h3⟩ := hh a (List.mem_filter.mp ha).1; let ⟨_, _, z⟩ := h3 (List.mem_filter.mp ha).2; z)]
end
@[simp] theorem blsD_fn {α : Type} (f : α → Bool) : ∀ l : List α, blsD (l.map fun a => D.bl (f a)) = some (l.map f)
  | [] => rfl
  | x :: l => by simp [blsD, blsD_fn f l]
@[simp] theorem intsD_fn {α : Type} (f : α → Int) : ∀ l : List α, intsD (l.map fun a => D.int (f a)) = some (l.map f)
  | [] => rfl
  | x :: l => by simp [intsD, intsD_fn f l]
@[simp] theorem noLs_fnI {α : Type} (f : α → Int) (l : List α) : noLs (l.map fun a => D.int (f a)) = true := noLs_map fun _ _ => rfl
@[simp] theorem noLs_fnB {α : Type} (f : α → Bool) (l : List α) : noLs (l.map fun a => D.bl (f a)) = true := noLs_map fun _ _ => rfl
theorem iteP {α : Type} {p : Prop} [Decidable p] {a b : α} (h : p) : (if p then a else b) = a := if_pos h
theorem iteN {α : Type} {p : Prop} [Decidable p] {a b : α} (h : ¬ p) : (if p then a else b) = b := if_neg h
@[simp] theorem intsD_nil : intsD [] = some [] := rfl
@[simp] theorem intsD_cons {i : Int} {l : List D} : intsD (.int i :: l) = (intsD l).map (i :: ·) := by simp only [intsD]
@[simp] theorem intsD_appI {l : List Int} {m : List D} : intsD (l.map .int ++ m) = (intsD m).map (l ++ ·) := by
  induction l with
  | nil => simp
  | cons x l ih => simp [ih, Function.comp_def]
@[simp] theorem blsD_nil : blsD [] = some [] := rfl
@[simp] theorem blsD_cons {i : Bool} {l : List D} : blsD (.bl i :: l) = (blsD l).map (i :: ·) := by simp only [blsD]
@[simp] theorem maxL_cons {x : Int} {l : List Int} : maxL (x :: l) = some (l.foldl max x) := rfl
@[simp] theorem minL_cons {x : Int} {l : List Int} : minL (x :: l) = some (l.foldl min x) := rfl
/-- an item of a list of ints -/
theorem at_ints {l : List Int} {i : Int} (h0 : 0 ≤ i) (h1 : i < l.length) : ∃ v, atI (l.map D.int) i = some (.int v) ∧ v ∈ l ∧ l[i.toNat]? = some v := by
  rw [atI_nn _ _ h0]
  have h : i.toNat < l.length := by omega
  exact ⟨l[i.toNat], by simp [h], List.getElem_mem h, by simp [h]⟩
@[simp] theorem intsD_takeI {l : List Int} {n : Nat} : intsD ((l.map D.int).take n) = some (l.take n) := by rw [← List.map_take]; exact intsD_map _
@[simp] theorem intsD_dropI {l : List Int} {n : Nat} : intsD ((l.map D.int).drop n) = some (l.drop n) := by rw [← List.map_drop]; exact intsD_map _
@[simp] theorem noLs_takeI {l : List Int} {n : Nat} : noLs ((l.map D.int).take n) = true := noLs_take (noLs_ints l)
@[simp] theorem noLs_dropI {l : List Int} {n : Nat} : noLs ((l.map D.int).drop n) = true := noLs_drop (noLs_ints l)
@[simp] theorem noLs_repI {x : Int} {n : Nat} : noLs (List.replicate n (D.int x)) = true := by
  induction n with
  | zero => simp
  | succ n ih => simp [List.replicate_succ, ih]
theorem lk_of {k : Kd} {l : List D} (h : noLs l = true) : lk k l = .own := lk_noL h
/-! sizes -/
theorem log2_of {i : Int} {n : Nat} (h : i.natAbs < 2 ^ n) (h0 : 0 < n) : i.natAbs.log2 < n := PySem.Flt.log2_lt_of h0 h
theorem mulOk_of {i j : Int} {a b : Nat} (ha : i.natAbs < 2 ^ a) (hb : j.natAbs < 2 ^ b) (h0 : 0 < a) (h1 : 0 < b) (h : a + b ≤ 100000000) : mulOk i j = true := by
  have x := log2_of ha h0
  have y := log2_of hb h1
  exact decide_eq_true (by omega)
/-- both below 2^64 -/
theorem mulOk_small {i j : Int} (h1 : -18446744073709551616 < i) (h2 : i < 18446744073709551616) (h3 : -18446744073709551616 < j) (h4 : j < 18446744073709551616) : mulOk i j = true :=
  mulOk_of (a := 64) (b := 64) (by omega) (by omega) (by decide) (by decide) (by decide)
theorem divOk_of {j : Int} {b : Nat} (h : 0 < j) (hb : j.natAbs < 2 ^ b) (h0 : 0 < b) (h9 : b ≤ 9000) : divOk j = true := by
  unfold divOk
  rw [decide_eq_true h, decide_eq_true (Nat.lt_of_lt_of_le (log2_of hb h0) h9)]
  rfl
theorem divOk_small {j : Int} (h : 0 < j) (h2 : j < 18446744073709551616) : divOk j = true := divOk_of (b := 64) h (by omega) (by decide) (by decide)
/-! equality -/
mutual
/-- equality of data -/
def eqv2 : D → D → Bool
  | .non, .non => true
  | .bl a, .bl b => a == b
  | .bl a, .int j => (if a then 1 else 0) == j
  | .int i, .bl b => i == (if b then 1 else 0)
  | .int i, .int j => i == j
  | .str x, .str y => x == y
  | .lst x, .lst y => eqvs x y
  | .lst x, .scr y => eqvs x y
  | .scr x, .lst y => eqvs x y
  | .scr x, .scr y => eqvs x y
  | .tup x, .tup y => eqvs x y
  | _, _ => false
def eqvs : List D → List D → Bool
  | [], [] => true
  | x :: xs, y :: ys => eqv2 x y && eqvs xs ys
  | _, _ => false
end
mutual
/-- it may be compared: no dicts, at most n deep -/
def cmD : Nat → D → Bool
  | _, .non => true
  | _, .bl _ => true
  | _, .int _ => true
  | _, .str x => PyData.strOk x
  | 0, .tup _ => false
  | 0, .lst _ => false
  | 0, .scr _ => false
  | n + 1, .tup ds => cmDs n ds
  | n + 1, .lst ds => cmDs n ds
  | n + 1, .scr ds => cmDs n ds
  | _, .dic _ => false
  | _, .fn _ => false
  | _, .obj _ _ _ => false
  | _, .dtk _ => false
  | _, .sob _ _ => false
  | _, .fdc _ => false
  | _, .exv _ _ _ _ => false
  | _, .nod _ _ => false
def cmDs : Nat → List D → Bool
  | _, [] => true
  | n, d :: ds => cmD n d && cmDs n ds
end
mutual
theorem toP_of : ∀ {n : Nat} {d : D}, cmD n d = true → ∃ p, toP d = some p ∧ p.canLay0 = true ∧ p.depth ≤ n
  | _, .non, _ => ⟨.none, by simp [toP], by simp [PyData.canLay0], by simp [PyData.depth]⟩
  | _, .bl b, _ => ⟨.bool b, by simp [toP], by simp [PyData.canLay0], by simp [PyData.depth]⟩
  | _, .int b, _ => ⟨.int b, by simp [toP], by simp [PyData.canLay0], by simp [PyData.depth]⟩
  | _, .str b, h => ⟨.str b, by simp [toP], by simpa [PyData.canLay0, cmD] using h, by simp [PyData.depth]⟩
  | 0, .tup _, h => by simp [cmD] at h
  | 0, .lst _, h => by simp [cmD] at h
  | 0, .scr _, h => by simp [cmD] at h
  | n + 1, .tup ds, h => by
    obtain ⟨p, h1, h2, h3⟩ := toPs_of (n := n) (ds := ds) (by simpa [cmD] using h)
    exact ⟨.tuple p, by simp [toP, h1], by simpa [PyData.canLay0] using h2, by simpa [PyData.depth] using h3⟩
  | n + 1, .lst ds, h => by
    obtain ⟨p, h1, h2, h3⟩ := toPs_of (n := n) (ds := ds) (by simpa [cmD] using h)
    exact ⟨.list p, by simp [toP, h1], by simpa [PyData.canLay0] using h2, by simpa [PyData.depth] using h3⟩
  | n + 1, .scr ds, h => by
    obtain ⟨p, h1, h2, h3⟩ := toPs_of (n := n) (ds := ds) (by simpa [cmD] using h)
    exact ⟨.list p, by simp [toP, h1], by simpa [PyData.canLay0] using h2, by simpa [PyData.depth] using h3⟩
  | n, .dic _, h => by cases n <;> simp [cmD] at h
  | n, .fn _, h => by cases n <;> simp [cmD] at h
  | n, .obj _ _ _, h => by cases n <;> simp [cmD] at h
  | n, .dtk _, h => by cases n <;> simp [cmD] at h
  | n, .sob _ _, h => by cases n <;> simp [cmD] at h
  | n, .fdc _, h => by cases n <;> simp [cmD] at h
  | n, .exv _ _ _ _, h => by cases n <;> simp [cmD] at h
  | n, .nod _ _, h => by cases n <;> simp [cmD] at h
theorem toPs_of : ∀ {n : Nat} {ds : List D}, cmDs n ds = true → ∃ p, toPs ds = some p ∧ PyData.canLayAll0 p = true ∧ PyData.depthAll p ≤ n
  | _, [], _ => ⟨[], by simp [toPs], by simp [PyData.canLayAll0], by simp [PyData.depthAll]⟩
  | n, d :: ds, h => by
    have h : cmD n d = true ∧ cmDs n ds = true := by simpa [cmDs] using h
    obtain ⟨p, h1, h2, h3⟩ := toP_of h.1
    obtain ⟨q, h4, h5, h6⟩ := toPs_of h.2
    exact ⟨p :: q, by simp [toPs, h1, h4], by simp [PyData.canLayAll0, h2, h5], by simp [PyData.depthAll]; omega⟩
end
mutual
theorem eqv_of : ∀ {a b : D} {p q : PyData}, toP a = some p → toP b = some q → PyData.eqv p q = eqv2 a b
  | a, b, p, q, h1, h2 => by
    cases a with
    | tup x =>
      cases hx : toPs x with
      | none => simp [toP, hx] at h1
      | some x' =>
        simp [toP, hx] at h1; subst h1
        cases b with
        | tup y =>
          cases hy : toPs y with
          | none => simp [toP, hy] at h2
          | some y' => simp [toP, hy] at h2; subst h2; simp [PyData.eqv, eqv2]; exact eqvs_of hx hy
        | lst y => cases hy : toPs y <;> simp [toP, hy] at h2; subst h2; simp [PyData.eqv, eqv2]
        | scr y => cases hy : toPs y <;> simp [toP, hy] at h2; subst h2; simp [PyData.eqv, eqv2]
        | dic y => simp [toP] at h2
        | fn y => simp [toP] at h2
        | obj t y z => simp [toP] at h2
        | dtk y => simp [toP] at h2
        | sob y z => simp [toP] at h2
        | fdc y => simp [toP] at h2
        | exv y z u t => simp [toP] at h2
        | nod y z => simp [toP] at h2
        | _ => simp [toP] at h2; subst h2; simp [PyData.eqv, eqv2]
    | lst x =>
      cases hx : toPs x with
      | none => simp [toP, hx] at h1
      | some x' =>
        simp [toP, hx] at h1; subst h1
        cases b with
        | lst y =>
          cases hy : toPs y with
          | none => simp [toP, hy] at h2
          | some y' => simp [toP, hy] at h2; subst h2; simp [PyData.eqv, eqv2]; exact eqvs_of hx hy
        | scr y =>
          cases hy : toPs y with
          | none => simp [toP, hy] at h2
          | some y' => simp [toP, hy] at h2; subst h2; simp [PyData.eqv, eqv2]; exact eqvs_of hx hy
        | tup y => cases hy : toPs y <;> simp [toP, hy] at h2; subst h2; simp [PyData.eqv, eqv2]
        | dic y => simp [toP] at h2
        | fn y => simp [toP] at h2
        | obj t y z => simp [toP] at h2
        | dtk y => simp [toP] at h2
        | sob y z => simp [toP] at h2
        | fdc y => simp [toP] at h2
        | exv y z u t => simp [toP] at h2
        | nod y z => simp [toP] at h2
        | _ => simp [toP] at h2; subst h2; simp [PyData.eqv, eqv2]
    | scr x =>
      cases hx : toPs x with
      | none => simp [toP, hx] at h1
      | some x' =>
        simp [toP, hx] at h1; subst h1
        cases b with
        | lst y =>
          cases hy : toPs y with
          | none => simp [toP, hy] at h2
          | some y' => simp [toP, hy] at h2; subst h2; simp [PyData.eqv, eqv2]; exact eqvs_of hx hy
        | scr y =>
          cases hy : toPs y with
          | none => simp [toP, hy] at h2
          | some y' => simp [toP, hy] at h2; subst h2; simp [PyData.eqv, eqv2]; exact eqvs_of hx hy
        | tup y => cases hy : toPs y <;> simp [toP, hy] at h2; subst h2; simp [PyData.eqv, eqv2]
        | dic y => simp [toP] at h2
        | fn y => simp [toP] at h2
        | obj t y z => simp [toP] at h2
        | dtk y => simp [toP] at h2
        | sob y z => simp [toP] at h2
        | fdc y => simp [toP] at h2
        | exv y z u t => simp [toP] at h2
        | nod y z => simp [toP] at h2
        | _ => simp [toP] at h2; subst h2; simp [PyData.eqv, eqv2]
    | dic x => simp [toP] at h1
    | fn x => simp [toP] at h1
    | obj t x z => simp [toP] at h1
    | dtk x => simp [toP] at h1
    | sob x z => simp [toP] at h1
    | fdc x => simp [toP] at h1
    | exv x z u t => simp [toP] at h1
    | nod x z => simp [toP] at h1
    | _ =>
      simp [toP] at h1; subst h1
      cases b with
      | tup y => cases hy : toPs y <;> simp [toP, hy] at h2; subst h2; simp [PyData.eqv, eqv2]
      | lst y => cases hy : toPs y <;> simp [toP, hy] at h2; subst h2; simp [PyData.eqv, eqv2]
      | scr y => cases hy : toPs y <;> simp [toP, hy] at h2; subst h2; simp [PyData.eqv, eqv2]
      | dic y => simp [toP] at h2
      | fn y => simp [toP] at h2
      | obj t y z => simp [toP] at h2
      | dtk y => simp [toP] at h2
      | sob y z => simp [toP] at h2
      | fdc y => simp [toP] at h2
      | exv y z u t => simp [toP] at h2
      | nod y z => simp [toP] at h2
      | _ => simp [toP] at h2; subst h2; simp [PyData.eqv, eqv2]
theorem eqvs_of : ∀ {a b : List D} {p q : List PyData}, toPs a = some p → toPs b = some q → PyData.eqvAll p q = eqvs a b
  | [], [], p, q, h1, h2 => by simp [toPs] at h1 h2; subst h1; subst h2; simp [PyData.eqvAll, eqvs]
  | [], y :: ys, p, q, h1, h2 => by
    simp [toPs] at h1; subst h1
    cases hy : toP y <;> cases hys : toPs ys <;> simp [toPs, hy, hys] at h2
    subst h2; simp [PyData.eqvAll, eqvs]
  | x :: xs, [], p, q, h1, h2 => by
    simp [toPs] at h2; subst h2
    cases hy : toP x <;> cases hys : toPs xs <;> simp [toPs, hy, hys] at h1
    subst h1; simp [PyData.eqvAll, eqvs]
  | x :: xs, y :: ys, p, q, h1, h2 => by
    cases hx : toP x <;> cases hxs : toPs xs <;> simp [toPs, hx, hxs] at h1
    cases hy : toP y <;> cases hys : toPs ys <;> simp [toPs, hy, hys] at h2
    subst h1; subst h2
    simp [PyData.eqvAll, eqvs, eqv_of hx hy, eqvs_of hxs hys]
end
theorem eqD_of {a b : D} (h1 : cmD 64 a = true) (h2 : cmD 64 b = true) : eqD a b = some (eqv2 a b) := by
  obtain ⟨p, e1, l1, d1⟩ := toP_of h1
  obtain ⟨q, e2, l2, d2⟩ := toP_of h2
  unfold eqD
  rw [e1, e2]
  have s1 : SeqAt.shaped p = true := by unfold SeqAt.shaped; rw [l1, decide_eq_true d1]; rfl
  have s2 : SeqAt.shaped q = true := by unfold SeqAt.shaped; rw [l2, decide_eq_true d2]; rfl
  simp only [s1, s2, if_true, eqv_of e1 e2]
section
variable {n : Nat}
@[simp] theorem cmD_int {i : Int} : cmD n (.int i) = true := by cases n <;> simp [cmD]
@[simp] theorem cmD_bl {i : Bool} : cmD n (.bl i) = true := by cases n <;> simp [cmD]
@[simp] theorem cmD_non : cmD n .non = true := by cases n <;> simp [cmD]
@[simp] theorem cmD_str {x : Str} : cmD n (.str x) = PyData.strOk x := by cases n <;> simp [cmD]
@[simp] theorem cmD_tup {l : List D} : cmD (n + 1) (.tup l) = cmDs n l := by simp [cmD]
@[simp] theorem cmD_lst {l : List D} : cmD (n + 1) (.lst l) = cmDs n l := by simp [cmD]
@[simp] theorem cmD_scr {l : List D} : cmD (n + 1) (.scr l) = cmDs n l := by simp [cmD]
@[simp] theorem cmDs_nil : cmDs n [] = true := by cases n <;> simp [cmDs]
@[simp] theorem cmDs_cons {d : D} {l : List D} : cmDs n (d :: l) = (cmD n d && cmDs n l) := by cases n <;> simp [cmDs]
theorem cmDs_all {l : List D} : cmDs n l = l.all (cmD n) := by
  induction l with
  | nil => simp
  | cons x l ih => simp [ih]
@[simp] theorem cmDs_map {α : Type} {f : α → D} {l : List α} : cmDs n (l.map f) = l.all (fun x => cmD n (f x)) := by rw [cmDs_all, List.all_map]; rfl
@[simp] theorem eqv2_int {i j : Int} : eqv2 (.int i) (.int j) = decide (i = j) := by simp only [eqv2]; rfl
@[simp] theorem eqv2_bl {i j : Bool} : eqv2 (.bl i) (.bl j) = decide (i = j) := by cases i <;> cases j <;> simp [eqv2]
@[simp] theorem eqv2_str {i j : Str} : eqv2 (.str i) (.str j) = decide (i = j) := by simp only [eqv2]; rfl
@[simp] theorem eqv2_tup {x y : List D} : eqv2 (.tup x) (.tup y) = eqvs x y := by simp only [eqv2]
@[simp] theorem eqv2_lst {x y : List D} : eqv2 (.lst x) (.lst y) = eqvs x y := by simp only [eqv2]
@[simp] theorem eqv2_tl {x y : List D} : eqv2 (.tup x) (.lst y) = false := by simp only [eqv2]
@[simp] theorem eqv2_lt {x y : List D} : eqv2 (.lst x) (.tup y) = false := by simp only [eqv2]
@[simp] theorem eqv2_ls {x : List D} {y : Str} : eqv2 (.lst x) (.str y) = false := by simp only [eqv2]
@[simp] theorem eqv2_is {x : Int} {y : Str} : eqv2 (.int x) (.str y) = false := by simp only [eqv2]
@[simp] theorem eqv2_bs {x : Bool} {y : Str} : eqv2 (.bl x) (.str y) = false := by simp only [eqv2]
@[simp] theorem eqv2_nn : eqv2 .non .non = true := by simp only [eqv2]
@[simp] theorem eqv2_tn {x : List D} : eqv2 (.tup x) .non = false := by simp only [eqv2]
@[simp] theorem eqv2_nt {x : List D} : eqv2 .non (.tup x) = false := by simp only [eqv2]
@[simp] theorem eqvs_nil : eqvs [] [] = true := by simp only [eqvs]
@[simp] theorem eqvs_cons {x y : D} {l m : List D} : eqvs (x :: l) (y :: m) = (eqv2 x y && eqvs l m) := by simp only [eqvs]
@[simp] theorem eqvs_nc {x : D} {l : List D} : eqvs [] (x :: l) = false := by simp only [eqvs]
@[simp] theorem eqvs_cn {x : D} {l : List D} : eqvs (x :: l) [] = false := by simp only [eqvs]
theorem eqvs_map {α : Type} [DecidableEq α] (f : α → D) (h : ∀ x y, eqv2 (f x) (f y) = decide (x = y)) : ∀ l m : List α, eqvs (l.map f) (m.map f) = decide (l = m)
  | [], [] => by simp
  | [], y :: m => by simp
  | x :: l, [] => by simp
  | x :: l, y :: m => by simp [h, eqvs_map f h l m]
@[simp] theorem eqvs_ints (l m : List Int) : eqvs (l.map D.int) (m.map D.int) = decide (l = m) := eqvs_map _ (fun _ _ => eqv2_int) l m
@[simp] theorem eqvs_tups (l m : List (List Int)) : eqvs (l.map fun r => D.tup (r.map D.int)) (m.map fun r => D.tup (r.map D.int)) = decide (l = m) := eqvs_map _ (fun _ _ => by simp) l m
@[simp] theorem eqvs_lsts (l m : List (List Int)) : eqvs (l.map fun r => D.lst (r.map D.int)) (m.map fun r => D.lst (r.map D.int)) = decide (l = m) := eqvs_map _ (fun _ _ => by simp) l m
@[simp] theorem eqD_int {i j : Int} : eqD (.int i) (.int j) = some (decide (i = j)) := by rw [eqD_of (by simp) (by simp)]; simp
@[simp] theorem eqD_bl {i j : Bool} : eqD (.bl i) (.bl j) = some (decide (i = j)) := by rw [eqD_of (by simp) (by simp)]; simp
@[simp] theorem eqD_tupI {l m : List Int} : eqD (.tup (l.map .int)) (.tup (m.map .int)) = some (decide (l = m)) := by rw [eqD_of (by simp) (by simp)]; simp
@[simp] theorem eqD_lstI {l m : List Int} : eqD (.lst (l.map .int)) (.lst (m.map .int)) = some (decide (l = m)) := by rw [eqD_of (by simp) (by simp)]; simp
theorem eqD_str {i j : Str} (h1 : PyData.strOk i = true) (h2 : PyData.strOk j = true) : eqD (.str i) (.str j) = some (decide (i = j)) := by rw [eqD_of (by simp [h1]) (by simp [h2])]; simp
end
end Cz
set_option maxHeartbeats 1000000
/-! Ev3: in, index, dicts by ints, places by number. -/
namespace Cz
open PySem PySem.Spec PyProof.Rows L2
theorem ixN_nn {n : Nat} {i : Int} (h0 : 0 ≤ i) (h1 : i < n) : ixN n i = some i.toNat := by
  unfold ixN
  rw [if_pos h0, if_pos (by omega)]
theorem ixN_neg {n : Nat} {i : Int} (h0 : i < 0) (h1 : -(n : Int) ≤ i) : ixN n i = some (i + n).toNat := by
  unfold ixN
  first
    | (rw [if_neg (by omega), if_pos (by omega)])
    | (simp only [show ¬ (0 ≤ i) by omega, if_false]; split <;> first | rfl | omega)
theorem shaped_of {n : Nat} {p : PyData} (h : p.canLay0 = true) (h2 : p.depth ≤ n) (hn : n ≤ 64) : SeqAt.shaped p = true := by
  unfold SeqAt.shaped
  rw [h, decide_eq_true (show p.depth ≤ 64 by omega)]; rfl
/-- x in xs -/
theorem any_of {x : D} {p : PyData} (hx : toP x = some p) : ∀ {ds : List D} {ps : List PyData}, toPs ds = some ps → (ps.any fun z => PyData.eqv z p) = ds.any fun d => eqv2 d x
  | [], ps, h => by simp [toPs] at h; subst h; rfl
  | d :: ds, ps, h => by
    cases hd : toP d <;> cases hds : toPs ds <;> simp [toPs, hd, hds] at h
    subst h
    simp [eqv_of hd hx, any_of hx hds]
theorem inD_lst {x : D} {ds : List D} (h1 : cmD 63 x = true) (h2 : cmDs 63 ds = true) : inD x (.lst ds) = some (ds.any fun d => eqv2 d x) := by
  obtain ⟨p, e1, l1, d1⟩ := toP_of h1
  obtain ⟨q, e2, l2, d2⟩ := toPs_of h2
  have s1 : SeqAt.shaped p = true := shaped_of l1 d1 (by decide)
  have s2 : SeqAt.shaped (.list q) = true := shaped_of (n := 64) (by simpa [PyData.canLay0] using l2) (by simp [PyData.depth]; omega) (by decide)
  simp only [inD, e1, e2, s1, s2, if_true, any_of e1 e2]
theorem any_fn {α : Type} [BEq α] [LawfulBEq α] {f : α → D} (h : ∀ x y, eqv2 (f x) (f y) = (x == y)) {x : α} : ∀ {l : List α}, ((l.map f).any fun d => eqv2 d (f x)) = decide (x ∈ l)
  | [] => by simp
  | y :: l => by
    have ih := any_fn h (x := x) (l := l)
    simp only [List.map_cons, List.any_cons, h, ih, List.mem_cons]
    by_cases e : y = x
    · simp [e]
    · simp [e, show x ≠ y from fun z => e z.symm]
theorem tupB (x y : List Int) : eqv2 (.tup (x.map D.int)) (.tup (y.map D.int)) = (x == y) := by
  rw [eqv2_tup, eqvs_ints, Bool.eq_iff_iff]; simp
theorem lstB (x y : List Int) : eqv2 (.lst (x.map D.int)) (.lst (y.map D.int)) = (x == y) := by
  rw [eqv2_lst, eqvs_ints, Bool.eq_iff_iff]; simp
theorem intB (x y : Int) : eqv2 (.int x) (.int y) = (x == y) := by rw [eqv2_int, Bool.eq_iff_iff]; simp
@[simp] theorem inD_ints {n : Int} {l : List Int} : inD (.int n) (.lst (l.map .int)) = some (decide (n ∈ l)) := by
  rw [inD_lst (by simp) (by simp), any_fn (f := D.int) intB]
@[simp] theorem inD_tups {n : List Int} {l : List (List Int)} : inD (.tup (n.map .int)) (.lst (l.map fun r => .tup (r.map .int))) = some (decide (n ∈ l)) := by
  rw [inD_lst (by simp) (by simp), any_fn (f := fun r : List Int => D.tup (r.map D.int)) tupB]
@[simp] theorem inD_lsts {n : List Int} {l : List (List Int)} : inD (.lst (n.map .int)) (.lst (l.map fun r => .lst (r.map .int))) = some (decide (n ∈ l)) := by
  rw [inD_lst (by simp) (by simp), any_fn (f := fun r : List Int => D.lst (r.map D.int)) lstB]
theorem inV_ints {n : Int} : ∀ {l : List Int}, inV (.int n) (l.map V.int) = decide (n ∈ l) := by
  intro l
  induction l with
  | nil => simp [inV]
  | cons m l ih =>
    simp only [inV] at ih ⊢
    first
      | (simp [List.any_cons, ih, List.mem_cons]; done)
      | skip
    simp only [List.map_cons, List.any_cons, ih, List.mem_cons]
    by_cases e : m = n
    · subst e; simp [eqV]
    · have e' : ¬ n = m := fun z => e z.symm
      simp [eqV, e, e']
@[simp] theorem fVs_ints : ∀ {l : List Int}, fVs (l.map D.int) = some (l.map V.int)
  | [] => rfl
  | n :: l => by simp [fVs, fV, fVs_ints]
@[simp] theorem inD_tupI {n : Int} {l : List Int} : inD (.int n) (.tup (l.map .int)) = some (decide (n ∈ l)) := by
  simp only [inD, fV, fVs_ints, inV_ints]
/-- the first place -/
def ixD (x : D) : List D → Option Nat
  | [] => none
  | d :: r => if eqv2 d x = true then some 0 else (ixD x r).map (· + 1)
theorem idx_of {x : D} {p : PyData} (hx : toP x = some p) : ∀ {ds : List D} {ps : List PyData}, toPs ds = some ps → idxN p ps = ixD x ds
  | [], ps, h => by simp [toPs] at h; subst h; rfl
  | d :: ds, ps, h => by
    cases hd : toP d <;> cases hds : toPs ds <;> simp [toPs, hd, hds] at h
    subst h
    simp only [idxN, ixD, eqv_of hd hx, idx_of hx hds]
theorem opIdx_of {x : D} {ds : List D} (h1 : cmD 63 x = true) (h2 : cmDs 63 ds = true) : opIdx (.lst ds) [x] = (ixD x ds).map fun j : Nat => D.int j := by
  obtain ⟨p, e1, l1, d1⟩ := toP_of h1
  obtain ⟨q, e2, l2, d2⟩ := toPs_of h2
  have s1 : SeqAt.shaped p = true := shaped_of l1 d1 (by decide)
  have s2 : SeqAt.shaped (.list q) = true := shaped_of (n := 64) (by simpa [PyData.canLay0] using l2) (by simp [PyData.depth]; omega) (by decide)
  simp [e1, e2, s1, s2, idx_of e1 e2]
theorem ixD_fn {α : Type} [BEq α] [LawfulBEq α] {f : α → D} (h : ∀ x y, eqv2 (f x) (f y) = (x == y)) {x : α} : ∀ {l : List α}, x ∈ l → ixD (f x) (l.map f) = some (l.idxOf x)
  | [], hm => nomatch hm
  | y :: l, hm => by
    by_cases e : y = x
    · subst e; simp [ixD, h]
    · have hm' : x ∈ l := by
        rcases List.mem_cons.mp hm with z | z
        · exact absurd z.symm e
        · exact z
      have e2 : (y == x) = false := by simpa using e
      simp [ixD, h, e, ixD_fn h hm', List.idxOf_cons, e2]
theorem opIdx_ints {n : Int} {l : List Int} (h : n ∈ l) : opIdx (.lst (l.map .int)) [.int n] = some (.int (l.idxOf n)) := by
  rw [opIdx_of (by simp) (by simp), ixD_fn (f := D.int) intB h]; rfl
theorem opIdx_tups {n : List Int} {l : List (List Int)} (h : n ∈ l) : opIdx (.lst (l.map fun r => .tup (r.map .int))) [.tup (n.map .int)] = some (.int (l.idxOf n)) := by
  rw [opIdx_of (by simp) (by simp), ixD_fn (f := fun r : List Int => D.tup (r.map D.int)) tupB h]; rfl
theorem okIn_noL {k : Kd} {l : List D} (h : noLs l = true) : okIn k l = true := by cases k <;> simp [okIn, h]
@[simp] theorem keyD_int {i : Int} : keyD (.int i) = some (.inl i) := id rfl
@[simp] theorem keyD_str {i : Str} : keyD (.str i) = some (.inr i) := id rfl
@[simp] theorem inD_dic {x : D} {l : List (Key × D)} : inD x (.dic l) = (keyD x).map fun k => (valD l k).isSome := id rfl
/-! a dict that numbers what was seen -/
def kvF : Nat → List Int → List (Key × D)
  | _, [] => []
  | i, n :: r => (.inl n, .int i) :: kvF (i + 1) r
@[simp] theorem kvF_len (s : List Int) : ∀ i, (kvF i s).length = s.length := by
  induction s with
  | nil => intro i; rfl
  | cons n s ih => intro i; simp [kvF, ih]
theorem kvF_app (s : List Int) (n : Int) : ∀ i, kvF i (s ++ [n]) = kvF i s ++ [(.inl n, .int ((i + s.length : Nat) : Int))] := by
  induction s with
  | nil => intro i; simp [kvF]
  | cons m s ih => intro i; simp [kvF, ih]; omega
theorem kvF_val (n : Int) (s : List Int) : ∀ i, valD (kvF i s) (.inl n) = if n ∈ s then some (.int ((i + s.idxOf n : Nat) : Int)) else none := by
  induction s with
  | nil => intro i; rfl
  | cons m s ih =>
    intro i
    by_cases e : m = n
    · subst e; simp [kvF, valD]
    · have e2 : (m == n) = false := by simpa using e
      have e3 : ¬ (Sum.inl m : Key) = .inl n := fun z => e (Sum.inl.inj z)
      have e4 : ¬ n = m := fun z => e z.symm
      simp only [kvF, valD, if_neg e3, ih, List.mem_cons, e4, false_or, List.idxOf_cons, e2]
      split
      · simp; omega
      · rfl
theorem kvF_put {n : Int} {s : List Int} (h : n ∉ s) : putD (kvF 0 s) (.inl n) (.int (s.length : Int)) = kvF 0 (s ++ [n]) := by
  have e := kvF_val n s 0
  rw [if_neg h] at e
  rw [putD_out _ (valD_none e), kvF_app]
  simp
theorem inv_cons {i : Nat} {s : Sl} {ρ : Env} : inv i (s :: ρ) = (match s with | .bo is d => if i ∈ is then .no else .bo is d | s => s) :: inv i ρ := id rfl
end Cz
namespace Cz
open PySem PySem.Spec PyProof.Rows L2
noncomputable def t_p__wall_1 : STs := (valT (conE (.bl true)))
theorem t_p__wall_1_ev {ρ : Env} : t_p__wall_1 ρ = (valT (conE (.bl true))) ρ := rfl
noncomputable def b_p__wall_1 : SS := nilS
theorem b_p__wall_1_ev {ρ : Env} : b_p__wall_1 ρ = nilS ρ := rfl
noncomputable def b_p__wall : SS := (whS t_p__wall_1 b_p__wall_1)
noncomputable def f_p__wall : Fn := mkF 1 1 b_p__wall
noncomputable def t_p_lowest_1 : STs := (cmpT .Gt (locE 3) (conE (.int 0)))
theorem t_p_lowest_1_ev {ρ : Env} : t_p_lowest_1 ρ = (cmpT .Gt (locE 3) (conE (.int 0))) ρ := rfl
noncomputable def b_p_lowest_1 : SS := (swpS 2 3 (consA (locE 3) (consA (binE .Sub (locE 2) (binE .Mult (binE .FloorDiv (locE 2) (locE 3)) (locE 3))) nilA)))
theorem b_p_lowest_1_ev {ρ : Env} : b_p_lowest_1 ρ = (swpS 2 3 (consA (locE 3) (consA (binE .Sub (locE 2) (binE .Mult (binE .FloorDiv (locE 2) (locE 3)) (locE 3))) nilA))) ρ := rfl
noncomputable def b_p_lowest : SS := (seqS (asgS (tgN 2) (locE 0))
    (seqS (asgS (tgN 3) (locE 1))
    (seqS (whS t_p_lowest_1 b_p_lowest_1)
    (retS (tupE (consA (binE .FloorDiv (locE 0) (locE 2)) (consA (binE .FloorDiv (locE 1) (locE 2)) nilA)))))))
noncomputable def f_p_lowest : Fn := mkF 2 4 b_p_lowest
noncomputable def b_p_falling_1 : SS := (augS 2 .Mult (bltE bMax (consA (conE (.int 0)) (consA (binE .Sub (locE 0) (locE 3)) nilA))))
theorem b_p_falling_1_ev {ρ : Env} : b_p_falling_1 ρ = (augS 2 .Mult (bltE bMax (consA (conE (.int 0)) (consA (binE .Sub (locE 0) (locE 3)) nilA)))) ρ := rfl
noncomputable def b_p_falling : SS := (seqS (asgS (tgN 2) (conE (.int 1)))
    (seqS (forS (rng1I (locE 1)) (tgN 3) b_p_falling_1)
    (retV 2)))
noncomputable def f_p_falling : Fn := mkF 2 4 b_p_falling
noncomputable def e_p_good_name_1 : SE := (boolE (cmpT .In (locE 1) (conE (.str "abcdefghijklmnopqrstuvwxyz"))))
theorem e_p_good_name_1_ev {ρ : Env} : e_p_good_name_1 ρ = (boolE (cmpT .In (locE 1) (conE (.str "abcdefghijklmnopqrstuvwxyz")))) ρ := rfl
noncomputable def b_p_good_name : SS := (retS (boolE (andT (chnT .LtE .LtE (conE (.int 1)) (bltE bLen (consA (locE 0) nilA)) (conE (.int 12))) (bvT (bltE bAll (consA (lcE (seqI (locE 0)) [1] (tgN 1) yesT e_p_good_name_1) nilA))))))
noncomputable def f_p_good_name : Fn := mkF 1 2 b_p_good_name
noncomputable def b_p_Tray_packets : SS := (seqS (ifS (cmpT .NotIn (locE 1) (fldE ["Tray"] "stock" (locE 0))) (raiS "NoWood") nilS)
    (retS (idxE (fldE ["Tray"] "stock" (locE 0)) (locE 1))))
noncomputable def f_p_Tray_packets : Fn := mkF 2 2 b_p_Tray_packets
noncomputable def b_p_Tray_total : SS := (retS (svlE (fldE ["Tray"] "stock" (locE 0))))
noncomputable def f_p_Tray_total : Fn := mkF 1 1 b_p_Tray_total
noncomputable def b_l_draw_1 : SS := (seqS (asgS (tgN 3) (binE .Mod (binE .Add (binE .Mult (binE .Mod (binE .Mult (locE 3) (locE 3)) (conE (.int 2147483647))) (binE .Add (locE 3) (conE (.int 17)))) (conE (.int 12553))) (conE (.int 2147483647))))
    (seqS (appS 4 (iteE (cmpT .Gt (locE 2) (conE (.int 0))) (binE .Mod (locE 2) (locE 5)) (binE .Mod (binE .Add (binE .FloorDiv (locE 3) (conE (.int 59))) (binE .Mult (binE .Mod (locE 3) (conE (.int 8191))) (conE (.int 31)))) (locE 5))))
    (asgS (tgN 2) (binE .FloorDiv (locE 2) (locE 5)))))
theorem b_l_draw_1_ev {ρ : Env} : b_l_draw_1 ρ = (seqS (asgS (tgN 3) (binE .Mod (binE .Add (binE .Mult (binE .Mod (binE .Mult (locE 3) (locE 3)) (conE (.int 2147483647))) (binE .Add (locE 3) (conE (.int 17)))) (conE (.int 12553))) (conE (.int 2147483647))))
    (seqS (appS 4 (iteE (cmpT .Gt (locE 2) (conE (.int 0))) (binE .Mod (locE 2) (locE 5)) (binE .Mod (binE .Add (binE .FloorDiv (locE 3) (conE (.int 59))) (binE .Mult (binE .Mod (locE 3) (conE (.int 8191))) (conE (.int 31)))) (locE 5))))
    (asgS (tgN 2) (binE .FloorDiv (locE 2) (locE 5))))) ρ := rfl
noncomputable def b_l_draw : SS := (seqS (asgS (tgN 2) (iteE (cmpT .GtE (locE 0) (binE .Pow (conE (.int 10)) (conE (.int 18)))) (locE 0) (conE (.int 0))))
    (seqS (asgS (tgN 3) (binE .Mod (binE .Add (binE .Mult (binE .Mod (locE 0) (conE (.int 2147483629))) (conE (.int 48271))) (conE (.int 7919))) (conE (.int 2147483647))))
    (seqS (asgS (tgN 4) (lstE nilA))
    (seqS (forS (seqI (locE 1)) (tgN 5) b_l_draw_1)
    (retV 4)))))
noncomputable def f_l_draw : Fn := mkF 2 6 b_l_draw
noncomputable def b_l_cell : SS := (seqS (ifS (cmpT .Lt (locE 1) (bltE bLen (consA (locE 0) nilA))) (retS (idxE (locE 0) (locE 1))) nilS)
    (retS (binE .Add (binE .Add (binE .Mult (binE .Mod (bltE bSum (consA (locE 0) nilA)) (conE (.int 1000003))) (conE (.int 131))) (binE .Mult (bltE bLen (consA (locE 0) nilA)) (conE (.int 7919)))) (binE .Mult (locE 1) (conE (.int 104729))))))
noncomputable def f_l_cell : Fn := mkF 2 2 b_l_cell
noncomputable def b_l_many : SS := (retS (bltE bMax (consA (locE 1) (consA (bltE bMin (consA (bltE bLen (consA (locE 0) nilA)) (consA (conE (.int 63)) nilA))) nilA))))
noncomputable def f_l_many : Fn := mkF 2 2 b_l_many
noncomputable def b_l_num : SS := (retS (boolE (andT (bvT (isiE (locE 0) "int")) (notT (bvT (isiE (locE 0) "bool"))))))
noncomputable def f_l_num : Fn := mkF 1 1 b_l_num
noncomputable def b_l_split_1 : SS := (ifS (valT (locE 6)) (seqS (appS 5 (binE .Add (binE .Pow (conE (.int 10)) (conE (.int 18))) (binE .Mod (locE 0) (locE 4))))
    (asgS (tgN 0) (binE .FloorDiv (locE 0) (locE 4)))) (appS 5 (binE .Add (binE .Mult (locE 0) (binE .Add (binE .Mult (conE (.int 2)) (locE 7)) (conE (.int 3)))) (binE .Mult (conE (.int 7919)) (locE 7)))))
theorem b_l_split_1_ev {ρ : Env} : b_l_split_1 ρ = (ifS (valT (locE 6)) (seqS (appS 5 (binE .Add (binE .Pow (conE (.int 10)) (conE (.int 18))) (binE .Mod (locE 0) (locE 4))))
    (asgS (tgN 0) (binE .FloorDiv (locE 0) (locE 4)))) (appS 5 (binE .Add (binE .Mult (locE 0) (binE .Add (binE .Mult (conE (.int 2)) (locE 7)) (conE (.int 3)))) (binE .Mult (conE (.int 7919)) (locE 7))))) ρ := rfl
noncomputable def b_l_split : SS := (seqS (asgS (tgN 3) (binE .Mult (binE .Pow (conE (.int 10)) (conE (.int 60))) (binE .Pow (conE (.int 10)) (conE (.int 60)))))
    (seqS (asgS (tgN 4) (idxE (lstE (consA (binE .Pow (conE (.int 10)) (conE (.int 30))) (consA (locE 3) (consA (binE .Mult (binE .Mult (binE .Mult (locE 3) (locE 3)) (locE 3)) (locE 3)) nilA)))) (locE 2)))
    (seqS (asgS (tgN 5) (lstE nilA))
    (seqS (asgS (tgN 6) (boolE (cmpT .GtE (locE 0) (binE .Pow (conE (.int 10)) (conE (.int 18))))))
    (seqS (forS (rng1I (locE 1)) (tgN 7) b_l_split_1)
    (retV 5))))))
noncomputable def f_l_split : Fn := mkF 3 8 b_l_split
noncomputable def t_l_gcd_1 : STs := (cmpT .Gt (locE 1) (conE (.int 0)))
theorem t_l_gcd_1_ev {ρ : Env} : t_l_gcd_1 ρ = (cmpT .Gt (locE 1) (conE (.int 0))) ρ := rfl
noncomputable def b_l_gcd_1 : SS := (swpS 0 1 (consA (locE 1) (consA (binE .Mod (locE 0) (locE 1)) nilA)))
theorem b_l_gcd_1_ev {ρ : Env} : b_l_gcd_1 ρ = (swpS 0 1 (consA (locE 1) (consA (binE .Mod (locE 0) (locE 1)) nilA))) ρ := rfl
noncomputable def b_l_gcd : SS := (seqS (whS t_l_gcd_1 b_l_gcd_1)
    (retV 0))
noncomputable def f_l_gcd : Fn := mkF 2 2 b_l_gcd
noncomputable def b_l_down_1 : SS := (asgS (tgN 2) (binE .Mult (locE 2) (bltE bMax (consA (conE (.int 0)) (consA (binE .Sub (locE 0) (locE 3)) nilA)))))
theorem b_l_down_1_ev {ρ : Env} : b_l_down_1 ρ = (asgS (tgN 2) (binE .Mult (locE 2) (bltE bMax (consA (conE (.int 0)) (consA (binE .Sub (locE 0) (locE 3)) nilA))))) ρ := rfl
noncomputable def b_l_down : SS := (seqS (asgS (tgN 2) (conE (.int 1)))
    (seqS (forS (rng1I (locE 1)) (tgN 3) b_l_down_1)
    (retV 2)))
noncomputable def f_l_down : Fn := mkF 2 4 b_l_down
noncomputable def e_l_total_1 : SE := (locE 2)
theorem e_l_total_1_ev {ρ : Env} : e_l_total_1 ρ = (locE 2) ρ := rfl
noncomputable def b_l_total : SS := (retS (bltE bSum (consA (lcE (seqI (locE 0)) [1, 2] (tgT (tgCons (tgN 1) (tgCons (tgN 2) tgNil))) yesT e_l_total_1) nilA)))
noncomputable def f_l_total : Fn := mkF 1 3 b_l_total
noncomputable def b_p_look_room : SS := (ifS (cmpT .Lt (rmE "Tray" "total" f_p_Tray_total (locE 0) nilA) (locE 1)) (raiS "TooFew") nilS)
noncomputable def f_p_look_room : Fn := mkF 2 2 b_p_look_room
noncomputable def b_p_Tray___init___1 : SS := (seqS (ifS (orT (notT (valT (callE f_p_good_name (consA (locE 2) nilA) []))) (orT (cmpT .In (locE 2) (fldE ["Tray"] "stock" (locE 0))) (notT (chnT .LtE .LtE (conE (.int 0)) (locE 3) (conE (.int 99)))))) (raiS "BadTray") nilS)
    (stoS (fldP ["Tray"] "stock" (locP 0)) (locE 2) (locE 3)))
theorem b_p_Tray___init___1_ev {ρ : Env} : b_p_Tray___init___1 ρ = (seqS (ifS (orT (notT (valT (callE f_p_good_name (consA (locE 2) nilA) []))) (orT (cmpT .In (locE 2) (fldE ["Tray"] "stock" (locE 0))) (notT (chnT .LtE .LtE (conE (.int 0)) (locE 3) (conE (.int 99)))))) (raiS "BadTray") nilS)
    (stoS (fldP ["Tray"] "stock" (locP 0)) (locE 2) (locE 3))) ρ := rfl
noncomputable def b_p_Tray___init__ : SS := (seqS (ifS (notT (chnT .LtE .LtE (conE (.int 1)) (bltE bLen (consA (locE 1) nilA)) (conE (.int 6)))) (raiS "BadTray") nilS)
    (seqS (stfS ["Tray"] (locP 0) "stock" dnwE)
    (forS (seqI (locE 1)) (tgT (tgCons (tgN 2) (tgCons (tgN 3) tgNil))) b_p_Tray___init___1)))
noncomputable def f_p_Tray___init__ : GFn := mkG "Tray" 2 4 b_p_Tray___init__
noncomputable def b_p_Tray_all_woods_v2 : SS := (dropS (callE f_p__wall (consA (conE (.int 0)) nilA) []))
noncomputable def f_p_Tray_all_woods_v2 : Fn := mkF 1 1 b_p_Tray_all_woods_v2
noncomputable def b_p_Tray_less_v3 : SS := (dropS (callE f_p__wall (consA (conE (.int 1)) nilA) []))
noncomputable def f_p_Tray_less_v3 : Fn := mkF 2 2 b_p_Tray_less_v3
noncomputable def e_l_names_1 : SE := (conE (.int 12))
theorem e_l_names_1_ev {ρ : Env} : e_l_names_1 ρ = (conE (.int 12)) ρ := rfl
noncomputable def e_l_names_2 : SE := (conE (.int 26))
theorem e_l_names_2_ev {ρ : Env} : e_l_names_2 ρ = (conE (.int 26)) ρ := rfl
noncomputable def e_l_names_4 : SE := (iteE (cmpT .Eq (idxE (locE 4) (conE (.int 1))) (conE (.int 0))) (idxE (locE 4) (binE .Add (binE .Add (binE .Add (conE (.int 4)) (locE 1)) (binE .Mult (conE (.int 12)) (locE 3))) (locE 8))) (idxE (locE 4) (conE (.int 2))))
theorem e_l_names_4_ev {ρ : Env} : e_l_names_4 ρ = (iteE (cmpT .Eq (idxE (locE 4) (conE (.int 1))) (conE (.int 0))) (idxE (locE 4) (binE .Add (binE .Add (binE .Add (conE (.int 4)) (locE 1)) (binE .Mult (conE (.int 12)) (locE 3))) (locE 8))) (idxE (locE 4) (conE (.int 2)))) ρ := rfl
noncomputable def e_l_names_5 : SE := (idxE (locE 2) (binE .Mod (locE 9) (conE (.int 26))))
theorem e_l_names_5_ev {ρ : Env} : e_l_names_5 ρ = (idxE (locE 2) (binE .Mod (locE 9) (conE (.int 26)))) ρ := rfl
noncomputable def b_l_names_3 : SS := (seqS (asgS (tgN 6) (binE .Add (binE .Add (idxE (locE 4) (conE (.int 0))) (conE (.int 1))) (binE .Mod (idxE (locE 4) (binE .Add (conE (.int 4)) (locE 3))) (binE .Sub (conE (.int 12)) (idxE (locE 4) (conE (.int 0)))))))
    (seqS (asgS (tgN 7) (lcE (rng1I (locE 6)) [8] (tgN 8) yesT e_l_names_4))
    (seqS (stoS (locP 7) (idxE (locE 4) (conE (.int 0))) (binE .Add (idxE (locE 4) (conE (.int 3))) (binE .Mult (conE (.int 5)) (locE 3))))
    (appS 5 (joinE (conE (.str "")) (lcE (seqI (locE 7)) [9] (tgN 9) yesT e_l_names_5))))))
theorem b_l_names_3_ev {ρ : Env} : b_l_names_3 ρ = (seqS (asgS (tgN 6) (binE .Add (binE .Add (idxE (locE 4) (conE (.int 0))) (conE (.int 1))) (binE .Mod (idxE (locE 4) (binE .Add (conE (.int 4)) (locE 3))) (binE .Sub (conE (.int 12)) (idxE (locE 4) (conE (.int 0)))))))
    (seqS (asgS (tgN 7) (lcE (rng1I (locE 6)) [8] (tgN 8) yesT e_l_names_4))
    (seqS (stoS (locP 7) (idxE (locE 4) (conE (.int 0))) (binE .Add (idxE (locE 4) (conE (.int 3))) (binE .Mult (conE (.int 5)) (locE 3))))
    (appS 5 (joinE (conE (.str "")) (lcE (seqI (locE 7)) [9] (tgN 9) yesT e_l_names_5)))))) ρ := rfl
noncomputable def b_l_names : SS := (seqS (asgS (tgN 2) (conE (.str "abcdefghijklmnopqrstuvwxyz")))
    (seqS (asgS (tgN 4) (callE f_l_draw (consA (locE 0) (consA (binE .Add (binE .Add (lstE (consA (conE (.int 12)) (consA (conE (.int 2)) (consA (conE (.int 26)) (consA (conE (.int 26)) nilA))))) (lcE (rng1I (locE 1)) [3] (tgN 3) yesT e_l_names_1)) (lcE (rng1I (binE .Mult (conE (.int 12)) (locE 1))) [3] (tgN 3) yesT e_l_names_2)) nilA)) []))
    (seqS (asgS (tgN 5) (lstE nilA))
    (seqS (forS (rng1I (locE 1)) (tgN 3) b_l_names_3)
    (retV 5)))))
noncomputable def f_l_names : Fn := mkF 2 10 b_l_names
noncomputable def b_l_fractions_1 : SS := (seqS (ifS (orT (notT (valT (isiE (locE 1) "tuple"))) (orT (cmpT .NotEq (bltE bLen (consA (locE 1) nilA)) (conE (.int 2))) (orT (notT (valT (callE f_l_num (consA (idxE (locE 1) (conE (.int 0))) nilA) []))) (notT (valT (callE f_l_num (consA (idxE (locE 1) (conE (.int 1))) nilA) [])))))) (retS (conE (.bl false))) nilS)
    (ifS (orT (cmpT .Lt (idxE (locE 1) (conE (.int 0))) (conE (.int 0))) (orT (cmpT .Lt (idxE (locE 1) (conE (.int 1))) (conE (.int 1))) (cmpT .NotEq (callE f_l_gcd (consA (idxE (locE 1) (conE (.int 0))) (consA (idxE (locE 1) (conE (.int 1))) nilA)) []) (conE (.int 1))))) (retS (conE (.bl false))) nilS))
theorem b_l_fractions_1_ev {ρ : Env} : b_l_fractions_1 ρ = (seqS (ifS (orT (notT (valT (isiE (locE 1) "tuple"))) (orT (cmpT .NotEq (bltE bLen (consA (locE 1) nilA)) (conE (.int 2))) (orT (notT (valT (callE f_l_num (consA (idxE (locE 1) (conE (.int 0))) nilA) []))) (notT (valT (callE f_l_num (consA (idxE (locE 1) (conE (.int 1))) nilA) [])))))) (retS (conE (.bl false))) nilS)
    (ifS (orT (cmpT .Lt (idxE (locE 1) (conE (.int 0))) (conE (.int 0))) (orT (cmpT .Lt (idxE (locE 1) (conE (.int 1))) (conE (.int 1))) (cmpT .NotEq (callE f_l_gcd (consA (idxE (locE 1) (conE (.int 0))) (consA (idxE (locE 1) (conE (.int 1))) nilA)) []) (conE (.int 1))))) (retS (conE (.bl false))) nilS)) ρ := rfl
noncomputable def b_l_fractions : SS := (seqS (forS (seqI (locE 0)) (tgN 1) b_l_fractions_1)
    (retS (conE (.bl true))))
noncomputable def f_l_fractions : Fn := mkF 1 2 b_l_fractions
noncomputable def e_l_due_v3_2 : SE := (locE 3)
theorem e_l_due_v3_2_ev {ρ : Env} : e_l_due_v3_2 ρ = (locE 3) ρ := rfl
noncomputable def e_l_due_v3_1 : SE := (boolE (cmpT .In (locE 2) (lcE (seqI (locE 0)) [3, 4] (tgT (tgCons (tgN 3) (tgCons (tgN 4) tgNil))) yesT e_l_due_v3_2)))
theorem e_l_due_v3_1_ev {ρ : Env} : e_l_due_v3_1 ρ = (boolE (cmpT .In (locE 2) (lcE (seqI (locE 0)) [3, 4] (tgT (tgCons (tgN 3) (tgCons (tgN 4) tgNil))) yesT e_l_due_v3_2))) ρ := rfl
noncomputable def b_l_due_v3 : SS := (seqS (ifS (notT (valT (bltE bAll (consA (lcE (seqI (locE 1)) [2] (tgN 2) yesT e_l_due_v3_1) nilA)))) (retS (lstE (consA (conE (.str "no wood")) nilA))) nilS)
    (seqS (ifS (notT (chnT .LtE .LtE (conE (.int 1)) (bltE bLen (consA (locE 1) nilA)) (conE (.int 9)))) (retS (lstE (consA (conE (.str "count")) nilA))) nilS)
    (retS (iteE (cmpT .Lt (callE f_l_total (consA (locE 0) nilA) []) (bltE bLen (consA (locE 1) nilA))) (lstE (consA (conE (.str "few")) nilA)) (conE .non)))))
noncomputable def f_l_due_v3 : Fn := mkF 2 5 b_l_due_v3
noncomputable def e_l_names_drawn_1 : SE := (conE (.int 6))
theorem e_l_names_drawn_1_ev {ρ : Env} : e_l_names_drawn_1 ρ = (conE (.int 6)) ρ := rfl
noncomputable def e_l_names_drawn_2 : SE := (idxE (idxE (locE 1) (binE .Mod (binE .Mod (locE 8) (locE 5)) (bltE bLen (consA (locE 1) nilA)))) (conE (.int 0)))
theorem e_l_names_drawn_2_ev {ρ : Env} : e_l_names_drawn_2 ρ = (idxE (idxE (locE 1) (binE .Mod (binE .Mod (locE 8) (locE 5)) (bltE bLen (consA (locE 1) nilA)))) (conE (.int 0))) ρ := rfl
noncomputable def b_l_names_drawn : SS := (seqS (asgS (tgN 3) (callE f_l_draw (consA (locE 0) (consA (binE .Add (lstE (consA (conE (.int 24)) (consA (conE (.int 6)) (consA (conE (.int 12)) (consA (conE (.int 3)) nilA))))) (lcE (rng1I (conE (.int 11))) [7] (tgN 7) yesT e_l_names_drawn_1)) nilA)) []))
    (seqS (asgS (tgN 4) (iteE (cmpT .Lt (idxE (locE 3) (conE (.int 0))) (conE (.int 13))) (binE .Mod (idxE (locE 3) (conE (.int 0))) (conE (.int 12))) (binE .Add (conE (.int 1)) (binE .Mod (idxE (locE 3) (conE (.int 0))) (conE (.int 6))))))
    (seqS (asgS (tgN 5) (idxE (lstE (consA (conE (.int 6)) (consA (conE (.int 1)) (consA (conE (.int 2)) nilA)))) (idxE (locE 3) (conE (.int 3)))))
    (seqS (asgS (tgN 6) (lcE (seqI (slE (locE 3) (someO (conE (.int 4))) (someO (binE .Add (conE (.int 4)) (locE 4))))) [8] (tgN 8) yesT e_l_names_drawn_2))
    (seqS (ifS (cmpT .Eq (idxE (locE 3) (conE (.int 1))) (conE (.int 0))) (mtS .l (locP 6) (consA (binE .Mod (idxE (locE 3) (conE (.int 2))) (binE .Add (locE 4) (conE (.int 1)))) (consA (locE 2) nilA)) opIns) nilS)
    (retV 6))))))
noncomputable def f_l_names_drawn : Fn := mkF 3 9 b_l_names_drawn
noncomputable def b_p_row_chance_1 : SS := (stoS (locP 2) (locE 3) (rmE "Tray" "packets" f_p_Tray_packets (locE 0) (consA (locE 3) nilA)))
theorem b_p_row_chance_1_ev {ρ : Env} : b_p_row_chance_1 ρ = (stoS (locP 2) (locE 3) (rmE "Tray" "packets" f_p_Tray_packets (locE 0) (consA (locE 3) nilA))) ρ := rfl
noncomputable def b_p_row_chance_2 : SS := (seqS (augS 4 .Mult (idxE (locE 2) (locE 3)))
    (stoS (locP 2) (locE 3) (bltE bMax (consA (conE (.int 0)) (consA (binE .Sub (idxE (locE 2) (locE 3)) (conE (.int 1))) nilA)))))
theorem b_p_row_chance_2_ev {ρ : Env} : b_p_row_chance_2 ρ = (seqS (augS 4 .Mult (idxE (locE 2) (locE 3)))
    (stoS (locP 2) (locE 3) (bltE bMax (consA (conE (.int 0)) (consA (binE .Sub (idxE (locE 2) (locE 3)) (conE (.int 1))) nilA))))) ρ := rfl
noncomputable def b_p_row_chance : SS := (seqS (asgS (tgN 2) dnwE)
    (seqS (forS (seqI (locE 1)) (tgN 3) b_p_row_chance_1)
    (seqS (ifS (notT (chnT .LtE .LtE (conE (.int 1)) (bltE bLen (consA (locE 1) nilA)) (conE (.int 9)))) (raiS "BadMany") nilS)
    (seqS (dropS (callE f_p_look_room (consA (locE 0) (consA (bltE bLen (consA (locE 1) nilA)) nilA)) []))
    (seqS (asgS (tgN 4) (conE (.int 1)))
    (seqS (forS (seqI (locE 1)) (tgN 3) b_p_row_chance_2)
    (retS (callE f_p_lowest (consA (locE 4) (consA (callE f_p_falling (consA (rmE "Tray" "total" f_p_Tray_total (locE 0) nilA) (consA (bltE bLen (consA (locE 1) nilA)) nilA)) []) nilA)) []))))))))
noncomputable def f_p_row_chance : Fn := mkF 2 5 b_p_row_chance
noncomputable def e_l_woods_1 : SE := (conE (.int 100))
theorem e_l_woods_1_ev {ρ : Env} : e_l_woods_1 ρ = (conE (.int 100)) ρ := rfl
noncomputable def e_l_woods_2 : SE := (tupE (consA (idxE (locE 4) (locE 6)) (consA (binE .Mod (idxE (locE 3) (binE .Add (conE (.int 2)) (locE 6))) (locE 5)) nilA)))
theorem e_l_woods_2_ev {ρ : Env} : e_l_woods_2 ρ = (tupE (consA (idxE (locE 4) (locE 6)) (consA (binE .Mod (idxE (locE 3) (binE .Add (conE (.int 2)) (locE 6))) (locE 5)) nilA))) ρ := rfl
noncomputable def b_l_woods : SS := (seqS (asgS (tgT (tgCons (tgN 1) (tgCons (tgN 2) tgNil))) (callE f_l_split (consA (locE 0) (consA (conE (.int 2)) nilA)) [.int 0]))
    (seqS (asgS (tgN 3) (callE f_l_draw (consA (locE 1) (consA (binE .Add (lstE (consA (conE (.int 6)) (consA (conE (.int 3)) nilA))) (lcE (rng1I (conE (.int 6))) [6] (tgN 6) yesT e_l_woods_1)) nilA)) []))
    (seqS (asgS (tgN 4) (callE f_l_names (consA (locE 2) (consA (conE (.int 7)) nilA)) []))
    (seqS (asgS (tgN 5) (idxE (lstE (consA (conE (.int 4)) (consA (conE (.int 12)) (consA (conE (.int 100)) nilA)))) (idxE (locE 3) (conE (.int 1)))))
    (retS (tupE (consA (lcE (rng1I (binE .Add (idxE (locE 3) (conE (.int 0))) (conE (.int 1)))) [6] (tgN 6) yesT e_l_woods_2) (consA (idxE (locE 4) (conE (.int 6))) nilA))))))))
noncomputable def f_l_woods : Fn := mkF 1 7 b_l_woods
noncomputable def b_l_fraction : SS := (seqS (ifS (orT (notT (valT (isiE (locE 0) "tuple"))) (notT (valT (callE f_l_fractions (consA (lstE (consA (locE 0) nilA)) nilA) [])))) (retS (conE (.bl false))) nilS)
    (retS (boolE (cmpT .Eq (binE .Mult (idxE (locE 0) (conE (.int 0))) (locE 2)) (binE .Mult (locE 1) (idxE (locE 0) (conE (.int 1))))))))
noncomputable def f_l_fraction : Fn := mkF 3 3 b_l_fraction
noncomputable def b_l_tried_v10_1 : SS := (retS (callE f_p_row_chance (consA (locE 0) (consA (locE 1) nilA)) []))
theorem b_l_tried_v10_1_ev {ρ : Env} : b_l_tried_v10_1 ρ = (retS (callE f_p_row_chance (consA (locE 0) (consA (locE 1) nilA)) [])) ρ := rfl
noncomputable def b_l_tried_v10 : SS := (tryS ["BadMany", "NoWood", "TooFew"] b_l_tried_v10_1 [("NoWood", fun _ => (retS (lstE (consA (conE (.str "no wood")) nilA)))), ("BadMany", fun _ => (retS (lstE (consA (conE (.str "count")) nilA)))), ("TooFew", fun _ => (retS (lstE (consA (conE (.str "few")) nilA))))])
noncomputable def f_l_tried_v10 : Fn := mkF 2 2 b_l_tried_v10
noncomputable def b_l_law_k28_2 : SS := (seqS (asgS (tgN 12) (mqE .l (slE (locE 6) noO (someO (locE 11))) (consA (idxE (locE 6) (locE 11)) nilA) opCntS))
    (asgS (tgN 10) (binE .Mult (locE 10) (bltE bMax (consA (conE (.int 0)) (consA (binE .Sub (idxE (bltE bDct (consA (locE 4) nilA)) (idxE (locE 6) (locE 11))) (locE 12)) nilA))))))
theorem b_l_law_k28_2_ev {ρ : Env} : b_l_law_k28_2 ρ = (seqS (asgS (tgN 12) (mqE .l (slE (locE 6) noO (someO (locE 11))) (consA (idxE (locE 6) (locE 11)) nilA) opCntS))
    (asgS (tgN 10) (binE .Mult (locE 10) (bltE bMax (consA (conE (.int 0)) (consA (binE .Sub (idxE (bltE bDct (consA (locE 4) nilA)) (idxE (locE 6) (locE 11))) (locE 12)) nilA)))))) ρ := rfl
noncomputable def b_l_law_k28_1 : SS := (seqS (asgS (tgT (tgCons (tgN 2) (tgCons (tgN 3) tgNil))) (callE f_l_split (consA (callE f_l_cell (consA (locE 0) (consA (locE 1) nilA)) []) (consA (conE (.int 2)) (consA (conE (.int 1)) nilA))) []))
    (seqS (asgS (tgT (tgCons (tgN 4) (tgCons (tgN 5) tgNil))) (callE f_l_woods (consA (locE 2) nilA) []))
    (seqS (asgS (tgN 6) (callE f_l_names_drawn (consA (locE 3) (consA (locE 4) (consA (locE 5) nilA))) []))
    (seqS (asgS (tgN 7) (bltE bLst (consA (locE 6) nilA)))
    (seqS (asgS (tgN 8) (callE f_l_tried_v10 (consA (mkzE "Tray" f_p_Tray___init__ (consA (bltE bLst (consA (locE 4) nilA)) nilA)) (consA (locE 7) nilA)) []))
    (seqS (asgS (tgN 9) (callE f_l_due_v3 (consA (locE 4) (consA (locE 6) nilA)) []))
    (seqS (ifS (cmpT .NotEq (locE 7) (locE 6)) (retS (conE (.bl false))) nilS)
    (ifS (cmpT .IsNot (locE 9) (conE .non)) (ifS (cmpT .NotEq (locE 8) (locE 9)) (retS (conE (.bl false))) nilS) (seqS (asgS (tgN 10) (conE (.int 1)))
    (seqS (forS (rng1I (bltE bLen (consA (locE 6) nilA))) (tgN 11) b_l_law_k28_2)
    (ifS (notT (valT (callE f_l_fraction (consA (locE 8) (consA (locE 10) (consA (callE f_l_down (consA (callE f_l_total (consA (locE 4) nilA) []) (consA (bltE bLen (consA (locE 6) nilA)) nilA)) []) nilA))) []))) (retS (conE (.bl false))) nilS)))))))))))
theorem b_l_law_k28_1_ev {ρ : Env} : b_l_law_k28_1 ρ = (seqS (asgS (tgT (tgCons (tgN 2) (tgCons (tgN 3) tgNil))) (callE f_l_split (consA (callE f_l_cell (consA (locE 0) (consA (locE 1) nilA)) []) (consA (conE (.int 2)) (consA (conE (.int 1)) nilA))) []))
    (seqS (asgS (tgT (tgCons (tgN 4) (tgCons (tgN 5) tgNil))) (callE f_l_woods (consA (locE 2) nilA) []))
    (seqS (asgS (tgN 6) (callE f_l_names_drawn (consA (locE 3) (consA (locE 4) (consA (locE 5) nilA))) []))
    (seqS (asgS (tgN 7) (bltE bLst (consA (locE 6) nilA)))
    (seqS (asgS (tgN 8) (callE f_l_tried_v10 (consA (mkzE "Tray" f_p_Tray___init__ (consA (bltE bLst (consA (locE 4) nilA)) nilA)) (consA (locE 7) nilA)) []))
    (seqS (asgS (tgN 9) (callE f_l_due_v3 (consA (locE 4) (consA (locE 6) nilA)) []))
    (seqS (ifS (cmpT .NotEq (locE 7) (locE 6)) (retS (conE (.bl false))) nilS)
    (ifS (cmpT .IsNot (locE 9) (conE .non)) (ifS (cmpT .NotEq (locE 8) (locE 9)) (retS (conE (.bl false))) nilS) (seqS (asgS (tgN 10) (conE (.int 1)))
    (seqS (forS (rng1I (bltE bLen (consA (locE 6) nilA))) (tgN 11) b_l_law_k28_2)
    (ifS (notT (valT (callE f_l_fraction (consA (locE 8) (consA (locE 10) (consA (callE f_l_down (consA (callE f_l_total (consA (locE 4) nilA) []) (consA (bltE bLen (consA (locE 6) nilA)) nilA)) []) nilA))) []))) (retS (conE (.bl false))) nilS))))))))))) ρ := rfl
noncomputable def b_l_law_k28 : SS := (seqS (forS (rng1I (callE f_l_many (consA (locE 0) (consA (conE (.int 3)) nilA)) [])) (tgN 1) b_l_law_k28_1)
    (retS (conE (.bl true))))
noncomputable def f_l_law_k28 : Fn := mkF 1 13 b_l_law_k28
noncomputable def b_l_number_row_1 : SS := (seqS (ifS (cmpT .NotIn (locE 3) (locE 1)) (appS 1 (locE 3)) nilS)
    (appS 2 (mqE .l (locE 1) (consA (locE 3) nilA) opIdx)))
theorem b_l_number_row_1_ev {ρ : Env} : b_l_number_row_1 ρ = (seqS (ifS (cmpT .NotIn (locE 3) (locE 1)) (appS 1 (locE 3)) nilS)
    (appS 2 (mqE .l (locE 1) (consA (locE 3) nilA) opIdx))) ρ := rfl
noncomputable def b_l_number_row : SS := (seqS (asgS (tgN 1) (lstE nilA))
    (seqS (asgS (tgN 2) (lstE nilA))
    (seqS (forS (seqI (locE 0)) (tgN 3) b_l_number_row_1)
    (retS (bltE bTup (consA (locE 2) nilA))))))
noncomputable def f_l_number_row : Fn := mkF 1 4 b_l_number_row
noncomputable def b_l_pair_of_wood : SS := (retS (boolE (andT (bvT (isiE (locE 0) "tuple")) (andT (cmpT .Eq (bltE bLen (consA (locE 0) nilA)) (conE (.int 2))) (andT (bvT (isiE (idxE (locE 0) (conE (.int 0))) "str")) (bvT (callE f_l_num (consA (idxE (locE 0) (conE (.int 1))) nilA) [])))))))
noncomputable def f_l_pair_of_wood : Fn := mkF 1 1 b_l_pair_of_wood
noncomputable def b_l_refused : SS := (retS (boolE (andT (bvT (isiE (locE 0) "list")) (andT (cmpT .Eq (bltE bLen (consA (locE 0) nilA)) (conE (.int 1))) (cmpT .Eq (idxE (locE 0) (conE (.int 0))) (conE (.str "refused")))))))
noncomputable def f_l_refused : Fn := mkF 1 1 b_l_refused
noncomputable def e_l_row_ok_1 : SE := (boolE (chnT .LtE .LtE (conE (.int 0)) (idxE (locE 0) (locE 1)) (binE .Add (bltE bMax (consA (slE (locE 0) noO (someO (locE 1))) nilA)) (conE (.int 1)))))
theorem e_l_row_ok_1_ev {ρ : Env} : e_l_row_ok_1 ρ = (boolE (chnT .LtE .LtE (conE (.int 0)) (idxE (locE 0) (locE 1)) (binE .Add (bltE bMax (consA (slE (locE 0) noO (someO (locE 1))) nilA)) (conE (.int 1))))) ρ := rfl
noncomputable def b_l_row_ok : SS := (seqS (ifS (orT (notT (chnT .LtE .LtE (conE (.int 1)) (bltE bLen (consA (locE 0) nilA)) (conE (.int 9)))) (cmpT .NotEq (idxE (locE 0) (conE (.int 0))) (conE (.int 0)))) (retS (conE (.bl false))) nilS)
    (retS (bltE bAll (consA (lcE (rng2I (conE (.int 1)) (bltE bLen (consA (locE 0) nilA))) [1] (tgN 1) yesT e_l_row_ok_1) nilA))))
noncomputable def f_l_row_ok : Fn := mkF 1 2 b_l_row_ok
noncomputable def b_p_Tray_all_woods : SS := (retS (litE (fldE ["Tray"] "stock" (locE 0))))
noncomputable def f_p_Tray_all_woods : Fn := mkF 1 1 b_p_Tray_all_woods
noncomputable def e_l_tray_stands_1 : SE := (callE f_l_pair_of_wood (consA (locE 3) nilA) [])
theorem e_l_tray_stands_1_ev {ρ : Env} : e_l_tray_stands_1 ρ = (callE f_l_pair_of_wood (consA (locE 3) nilA) []) ρ := rfl
noncomputable def e_l_tray_stands_2 : SE := (locE 5)
theorem e_l_tray_stands_2_ev {ρ : Env} : e_l_tray_stands_2 ρ = (locE 5) ρ := rfl
noncomputable def e_l_tray_stands_3 : SE := (boolE (andT (bvT (callE f_l_num (consA (rmE "Tray" "packets" f_p_Tray_packets (locE 0) (consA (locE 4) nilA)) nilA) [])) (cmpT .Eq (rmE "Tray" "packets" f_p_Tray_packets (locE 0) (consA (locE 4) nilA)) (locE 5))))
theorem e_l_tray_stands_3_ev {ρ : Env} : e_l_tray_stands_3 ρ = (boolE (andT (bvT (callE f_l_num (consA (rmE "Tray" "packets" f_p_Tray_packets (locE 0) (consA (locE 4) nilA)) nilA) [])) (cmpT .Eq (rmE "Tray" "packets" f_p_Tray_packets (locE 0) (consA (locE 4) nilA)) (locE 5)))) ρ := rfl
noncomputable def b_l_tray_stands : SS := (seqS (asgS (tgN 2) (rmE "Tray" "all_woods" f_p_Tray_all_woods (locE 0) nilA))
    (seqS (ifS (orT (notT (valT (isiE (locE 2) "list"))) (notT (valT (bltE bAll (consA (lcE (seqI (locE 2)) [3] (tgN 3) yesT e_l_tray_stands_1) nilA))))) (retS (conE (.bl false))) nilS)
    (seqS (ifS (orT (cmpT .NotEq (locE 2) (locE 1)) (orT (notT (valT (callE f_l_num (consA (rmE "Tray" "total" f_p_Tray_total (locE 0) nilA) nilA) []))) (cmpT .NotEq (rmE "Tray" "total" f_p_Tray_total (locE 0) nilA) (bltE bSum (consA (lcE (seqI (locE 1)) [4, 5] (tgT (tgCons (tgN 4) (tgCons (tgN 5) tgNil))) yesT e_l_tray_stands_2) nilA))))) (retS (conE (.bl false))) nilS)
    (retS (bltE bAll (consA (lcE (seqI (locE 1)) [4, 5] (tgT (tgCons (tgN 4) (tgCons (tgN 5) tgNil))) yesT e_l_tray_stands_3) nilA))))))
noncomputable def f_l_tray_stands : Fn := mkF 2 6 b_l_tray_stands
noncomputable def e_l_way_1 : SE := (binE .Add (locE 6) (conE (.int 1)))
theorem e_l_way_1_ev {ρ : Env} : e_l_way_1 ρ = (binE .Add (locE 6) (conE (.int 1))) ρ := rfl
noncomputable def b_l_way_2 : SS := (appS 4 (bltE bMin (consA (binE .Sub (locE 3) (conE (.int 1))) (consA (binE .Mod (locE 5) (binE .Add (bltE bMax (consA (binE .Add (lstE (consA (negE (conE (.int 1))) nilA)) (locE 4)) nilA)) (conE (.int 2)))) nilA))))
theorem b_l_way_2_ev {ρ : Env} : b_l_way_2 ρ = (appS 4 (bltE bMin (consA (binE .Sub (locE 3) (conE (.int 1))) (consA (binE .Mod (locE 5) (binE .Add (bltE bMax (consA (binE .Add (lstE (consA (negE (conE (.int 1))) nilA)) (locE 4)) nilA)) (conE (.int 2)))) nilA)))) ρ := rfl
noncomputable def b_l_way : SS := (seqS (asgS (tgN 2) (callE f_l_draw (consA (locE 0) (consA (binE .Add (lstE (consA (conE (.int 4)) nilA)) (lcE (rng1I (locE 1)) [6] (tgN 6) yesT e_l_way_1)) nilA)) []))
    (seqS (asgS (tgN 3) (idxE (lstE (consA (conE (.int 9)) (consA (conE (.int 2)) (consA (conE (.int 3)) (consA (conE (.int 9)) nilA))))) (idxE (locE 2) (conE (.int 0)))))
    (seqS (asgS (tgN 4) (lstE nilA))
    (seqS (forS (seqI (slE (locE 2) (someO (conE (.int 1))) noO)) (tgN 5) b_l_way_2)
    (retS (bltE bTup (consA (locE 4) nilA)))))))
noncomputable def f_l_way : Fn := mkF 2 7 b_l_way
noncomputable def e_l_way_ok_1 : SE := (callE f_l_num (consA (locE 2) nilA) [])
theorem e_l_way_ok_1_ev {ρ : Env} : e_l_way_ok_1 ρ = (callE f_l_num (consA (locE 2) nilA) []) ρ := rfl
noncomputable def b_l_way_ok : SS := (seqS (ifS (orT (notT (valT (isiE (locE 0) "tuple"))) (orT (cmpT .NotEq (bltE bLen (consA (locE 0) nilA)) (locE 1)) (notT (valT (bltE bAll (consA (lcE (seqI (locE 0)) [2] (tgN 2) yesT e_l_way_ok_1) nilA)))))) (retS (conE (.bl false))) nilS)
    (retS (callE f_l_row_ok (consA (locE 0) nilA) [])))
noncomputable def f_l_way_ok : Fn := mkF 2 3 b_l_way_ok
noncomputable def b_p_is_way_1 : SS := (seqS (ifS (notT (chnT .LtE .LtE (conE (.int 0)) (locE 2) (locE 1))) (retS (conE (.bl false))) nilS)
    (asgS (tgN 1) (bltE bMax (consA (locE 1) (consA (binE .Add (locE 2) (conE (.int 1))) nilA)))))
theorem b_p_is_way_1_ev {ρ : Env} : b_p_is_way_1 ρ = (seqS (ifS (notT (chnT .LtE .LtE (conE (.int 0)) (locE 2) (locE 1))) (retS (conE (.bl false))) nilS)
    (asgS (tgN 1) (bltE bMax (consA (locE 1) (consA (binE .Add (locE 2) (conE (.int 1))) nilA))))) ρ := rfl
noncomputable def b_p_is_way : SS := (seqS (ifS (notT (chnT .LtE .LtE (conE (.int 1)) (bltE bLen (consA (locE 0) nilA)) (conE (.int 9)))) (retS (conE (.bl false))) nilS)
    (seqS (asgS (tgN 1) (conE (.int 0)))
    (seqS (forS (seqI (locE 0)) (tgN 2) b_p_is_way_1)
    (retS (conE (.bl true))))))
noncomputable def f_p_is_way : Fn := mkF 1 3 b_p_is_way
noncomputable def b_p_numbered_1 : SS := (seqS (ifS (cmpT .NotIn (locE 3) (locE 1)) (stoS (locP 1) (locE 3) (bltE bLen (consA (locE 1) nilA))) nilS)
    (appS 2 (idxE (locE 1) (locE 3))))
theorem b_p_numbered_1_ev {ρ : Env} : b_p_numbered_1 ρ = (seqS (ifS (cmpT .NotIn (locE 3) (locE 1)) (stoS (locP 1) (locE 3) (bltE bLen (consA (locE 1) nilA))) nilS)
    (appS 2 (idxE (locE 1) (locE 3)))) ρ := rfl
noncomputable def b_p_numbered : SS := (seqS (asgS (tgN 1) dnwE)
    (seqS (asgS (tgN 2) (lstE nilA))
    (seqS (forS (seqI (locE 0)) (tgN 3) b_p_numbered_1)
    (retS (bltE bTup (consA (locE 2) nilA))))))
noncomputable def f_p_numbered : Fn := mkF 1 4 b_p_numbered
end Cz
set_option maxHeartbeats 1000000
set_option exponentiation.threshold 20000
/-! Lb1: the laws' common helpers: draw, cell, many, split. -/
namespace Cz
open PySem PySem.Spec PyProof.Rows L2
/-- each within its limit -/
inductive InR : List Int → List Int → Prop
  | nil : InR [] []
  | cons {l x : Int} {ls xs : List Int} : 0 ≤ x → x < l → InR ls xs → InR (l :: ls) (x :: xs)
theorem InR.len {ls xs : List Int} (h : InR ls xs) : xs.length = ls.length := by induction h <;> simp_all
theorem InR.get {ls xs : List Int} (h : InR ls xs) : ∀ {i : Nat} {l : Int}, ls[i]? = some l → ∃ x, xs[i]? = some x ∧ 0 ≤ x ∧ x < l := by
  induction h with
  | nil => intro i l e; simp at e
  | cons h1 h2 _ ih =>
    intro i l e
    cases i with
    | zero => simp at e; subst e; exact ⟨_, rfl, h1, h2⟩
    | succ i => simp at e ⊢; exact ih e
theorem InR.app {ms : List Int} : ∀ {ls : List Int} {xs : List Int}, InR (ls ++ ms) xs → ∃ a b, xs = a ++ b ∧ InR ls a ∧ InR ms b
  | [], xs, h => ⟨[], xs, rfl, .nil, h⟩
  | l :: ls, _, .cons h1 h2 h => by
    obtain ⟨a, b, e, h3, h4⟩ := InR.app h
    exact ⟨_ :: a, b, by rw [e]; rfl, .cons h1 h2 h3, h4⟩
/-- a limit -/
def LimOk (l : Int) : Prop := 0 < l ∧ l.natAbs < 2 ^ 9000
theorem LimOk.of {l : Int} (h : 0 < l) (h2 : l < 18446744073709551616) : LimOk l := ⟨h, Nat.lt_of_lt_of_le (show l.natAbs < 2 ^ 64 by omega) (Nat.pow_le_pow_right (by decide) (by decide))⟩
theorem LimOk.pow {l : Int} {n : Nat} (h : 0 < l) (h2 : l.natAbs < 2 ^ n) (h3 : n ≤ 9000) : LimOk l := ⟨h, Nat.lt_of_lt_of_le h2 (Nat.pow_le_pow_right (by decide) h3)⟩
theorem LimOk.div {l : Int} (h : LimOk l) : divOk l = true := divOk_of h.1 h.2 (by decide) (by decide)
theorem draw_loop (ls : List Int) (hl : ∀ l ∈ ls, LimOk l) (a0 a1 : D) : ∀ (rest seed : Int) (acc : List Int) (s5 : Sl), 0 ≤ rest → 0 ≤ seed → seed < 2147483647 → acc.length + ls.length < 16777216 →
    ∃ rest' seed' s5' row, loopS (tgN 5) b_l_draw_1 (ls.map D.int) [.bo [] a0, .bo [] a1, .bo [] (.int rest), .bo [] (.int seed), .ow (.lst (acc.map .int)), s5] =
      .nx [.bo [] a0, .bo [] a1, .bo [] (.int rest'), .bo [] (.int seed'), .ow (.lst ((acc ++ row).map .int)), s5'] ∧ InR ls row := by
  induction ls with
  | nil => intro rest seed acc s5 _ _ _ _; exact ⟨_, _, _, [], by simp; exact ⟨rfl, rfl, rfl⟩, .nil⟩
  | cons l ls ih =>
    intro rest seed acc s5 h1 h2 h3 h4
    have hl0 := hl l List.mem_cons_self
    have hd := hl0.div
    have hp := hl0.1
    simp only [List.length_cons] at h4
    have m1 : mulOk seed seed = true := mulOk_small (by omega) (by omega) (by omega) (by omega)
    obtain ⟨q, hq⟩ : ∃ q, q = seed * seed % 2147483647 := ⟨_, rfl⟩
    have hq1 : 0 ≤ q := by omega
    have hq2 : q < 2147483647 := by omega
    have m2 : mulOk q (seed + 17) = true := mulOk_small (by omega) (by omega) (by omega) (by omega)
    obtain ⟨n, hn⟩ : ∃ n, n = (q * (seed + 17) + 12553) % 2147483647 := ⟨_, rfl⟩
    have hn1 : 0 ≤ n := by omega
    have hn2 : n < 2147483647 := by omega
    have m3 : mulOk (n % 8191) 31 = true := mulOk_small (by omega) (by omega) (by omega) (by omega)
    have d59 : divOk 59 = true := by decide
    obtain ⟨x, hx, hx1, hx2⟩ : ∃ x, x = (if 0 < rest then rest % l else (n / 59 + n % 8191 * 31) % l) ∧ 0 ≤ x ∧ x < l := by
      refine ⟨_, rfl, ?_, ?_⟩
      · split <;> exact Int.emod_nonneg _ (by omega)
      · split <;> exact Int.emod_lt_of_pos _ hp
    have hr : 0 ≤ rest / l := Int.ediv_nonneg h1 (by omega)
    obtain ⟨rest', seed', s5', row, e, r⟩ := ih (fun l' h' => hl l' (List.mem_cons_of_mem _ h')) (rest / l) n (acc ++ [x]) (.bo [] (.int l)) hr hn1 hn2 (by simp; omega)
    refine ⟨rest', seed', s5', x :: row, ?_, .cons hx1 hx2 r⟩
    rw [List.map_cons, loopS_cons]
    have hlen : acc.length < 16777216 := by omega
    by_cases h0 : 0 < rest
    · simp only [if_pos h0] at hx
      simp [b_l_draw_1_ev, m1, ← hq, m2, ← hn, h0, hp, ← hx, hd, hlen]
      simpa using e
    · simp only [if_neg h0] at hx
      simp [b_l_draw_1_ev, m1, ← hq, m2, ← hn, h0, m3, d59, hp, ← hx, hd, hlen]
      simpa using e
theorem draw_ok (c : Int) (ls : List Int) (hl : ∀ l ∈ ls, LimOk l) (hn : ls.length < 16777216) : ∃ row, f_l_draw [.int c, .lst (ls.map .int)] = .ok (.own, .lst (row.map .int)) ∧ InR ls row := by
  have p1 : powOk 10 18 = true := by decide
  obtain ⟨r, hr, hr0⟩ : ∃ r, r = (if (1000000000000000000 : Int) ≤ c then c else 0) ∧ 0 ≤ r := ⟨_, rfl, by split <;> omega⟩
  have m1 : mulOk (c % 2147483629) 48271 = true := mulOk_small (by omega) (by omega) (by omega) (by omega)
  obtain ⟨s, hs⟩ : ∃ s, s = (c % 2147483629 * 48271 + 7919) % 2147483647 := ⟨_, rfl⟩
  obtain ⟨rest', seed', s5', row, e, i⟩ := draw_loop ls hl (.int c) (.lst (ls.map .int)) r s [] .no hr0 (by omega) (by omega) (by simpa using hn)
  refine ⟨row, ?_, i⟩
  simp at e
  by_cases h : (1000000000000000000 : Int) ≤ c
  · rw [if_pos h] at hr
    subst hr
    simp [f_l_draw, mkF_ev, b_l_draw, p1, h, m1, ← hs, e]
  · rw [if_neg h] at hr
    subst hr
    simp [f_l_draw, mkF_ev, b_l_draw, p1, h, m1, ← hs, e]
end Cz
set_option maxHeartbeats 1000000
/-! Lb2: many, cell, split. -/
namespace Cz
open PySem PySem.Spec PyProof.Rows L2
theorem lims_of {ls : List Int} (h : ls.all (fun l => decide (0 < l) && decide (l < 18446744073709551616)) = true) : ∀ l ∈ ls, LimOk l := fun l hl => by
  have := List.all_eq_true.mp h l hl
  simp at this
  exact .of this.1 this.2
/-- limits as they are written -/
theorem draw_lit (c : Int) (ls : List Int) (h : ls.all (fun l => decide (0 < l) && decide (l < 18446744073709551616)) = true) (hn : ls.length < 16777216) : ∃ row, f_l_draw [.int c, .lst (ls.map .int)] = .ok (.own, .lst (row.map .int)) ∧ InR ls row := draw_ok c ls (lims_of h) hn
/-- how many turns -/
def turns (ns : List Int) (few : Int) : Int := max few (min ns.length 63)
theorem many_ok (ns : List Int) (few : Int) : f_l_many [.scr (ns.map .int), .int few] = .ok (.own, .int (turns ns few)) := by
  simp [f_l_many, mkF_ev, b_l_many, turns]
/-- a number of a cell's size, j splits on -/
def Cel (j : Nat) (c : Int) : Prop := c.natAbs < 2 ^ (1048700 + 2000 * j)
theorem Cel.small {j : Nat} {c : Int} (h : c.natAbs < 2 ^ 2000) : Cel j c := Nat.lt_of_lt_of_le h (Nat.pow_le_pow_right (by decide) (by omega))
theorem Cel.mono {i j : Nat} {c : Int} (h : Cel i c) (hij : i ≤ j) : Cel j c := Nat.lt_of_lt_of_le h (Nat.pow_le_pow_right (by decide) (by omega))
theorem Cel.mul {j : Nat} {c m : Int} (h : Cel j c) (hj : j ≤ 40000) (hm : m.natAbs < 2 ^ 64) : mulOk c m = true := mulOk_of h hm (by omega) (by decide) (by omega)
theorem Cel.add {j : Nat} {c m a : Int} (h : Cel j c) (hm : m.natAbs < 2 ^ 64) (ha : a.natAbs < 2 ^ 64) : Cel (j + 1) (c * m + a) := by
  unfold Cel at h ⊢
  have e1 : (c * m).natAbs < 2 ^ (1048700 + 2000 * j + 64) := by
    rw [Int.natAbs_mul, Nat.pow_add]
    exact Nat.mul_lt_mul'' h hm
  have e2 : 2 ^ (1048700 + 2000 * j + 64) + 2 ^ 64 ≤ 2 ^ (1048700 + 2000 * (j + 1)) := by
    have : (2 : Nat) ^ 64 ≤ 2 ^ (1048700 + 2000 * j + 64) := Nat.pow_le_pow_right (by decide) (by omega)
    have h3 : (2 : Nat) ^ (1048700 + 2000 * j + 64) * 2 ≤ 2 ^ (1048700 + 2000 * (j + 1)) := by
      rw [← Nat.pow_succ]; exact Nat.pow_le_pow_right (by decide) (by omega)
    omega
  have e3 := Int.natAbs_add_le (c * m) a
  omega
def cellI (ns : List Int) (k : Nat) : Int := if k < ns.length then ns.getD k 0 else ns.sum % 1000003 * 131 + ns.length * 7919 + k * 104729
theorem cell_ok (ns : List Int) (k : Nat) (hk : k < 1000000) (hl : ns.length < 1000000) : f_l_cell [.scr (ns.map .int), .int k] = .ok (.own, .int (cellI ns k)) := by
  have m1 : mulOk (ns.sum % 1000003) 131 = true := mulOk_small (by omega) (by omega) (by omega) (by omega)
  have m2 : mulOk (ns.length : Int) 7919 = true := mulOk_small (by omega) (by omega) (by omega) (by omega)
  have m3 : mulOk (k : Int) 104729 = true := mulOk_small (by omega) (by omega) (by omega) (by omega)
  by_cases h : k < ns.length
  · have h' : (k : Int) < ns.length := by omega
    have e : atI (ns.map D.int) (k : Int) = some (.int (ns.getD k 0)) := by
      rw [atI_nn _ _ (by omega)]
      simp [List.getD, h]
    simp [f_l_cell, mkF_ev, b_l_cell, cellI, h, h', e]
  · have h' : ¬ (k : Int) < ns.length := by omega
    simp [f_l_cell, mkF_ev, b_l_cell, cellI, h, h', m1, m2, m3]
theorem intBits_lt {z : Int} {n : Nat} (h : Builtin.Int.intBits z ≤ n) : z.natAbs < 2 ^ n := by
  by_cases h0 : z = 0
  · subst h0; simp; exact Nat.two_pow_pos n
  · unfold Builtin.Int.intBits at h
    rw [if_neg (by simpa using h0)] at h
    exact (Nat.log2_lt (by omega)).mp (by omega)
theorem cell_cel (ns : List Int) (k : Nat) (hk : k < 1000000) (hl : ns.length < 1000000) (hb : ∀ z ∈ ns, Builtin.Int.intBits z ≤ 1048576) : Cel 0 (cellI ns k) := by
  unfold cellI
  split
  · rename_i h
    have : ns.getD k 0 ∈ ns := by simp [List.getD, h]
    exact Nat.lt_of_lt_of_le (intBits_lt (hb _ this)) (Nat.pow_le_pow_right (by decide) (by decide))
  · refine Cel.small ?_
    have : (2 : Nat) ^ 64 ≤ 2 ^ 2000 := Nat.pow_le_pow_right (by decide) (by decide)
    have := Int.emod_nonneg ns.sum (show (1000003 : Int) ≠ 0 by decide)
    have := Int.emod_lt_of_pos ns.sum (show (0 : Int) < 1000003 by decide)
    omega
/-! split -/
theorem split_loop (w : Int) (hw : LimOk w) (hw2 : w.natAbs < 2 ^ 1900) (a1 a2 a3 : D) (ks : List Nat) (hk : ∀ k ∈ ks, k < 1000) : ∀ (j : Nat) (c : Int) (big : Bool) (acc : List Int) (s7 : Sl), Cel j c → j ≤ 30000 → acc.length + ks.length < 16777216 →
    ∃ (c' : Int) (s7' : Sl) (row : List Int), loopS (tgN 7) b_l_split_1 (ks.map fun (i : Nat) => .int (0 + (i : Int))) [.bo [] (.int c), .bo [] a1, .bo [] a2, .bo [] a3, .bo [] (.int w), .ow (.lst (acc.map .int)), .bo [] (.bl big), s7] =
      .nx [.bo [] (.int c'), .bo [] a1, .bo [] a2, .bo [] a3, .bo [] (.int w), .ow (.lst ((acc ++ row).map .int)), .bo [] (.bl big), s7'] ∧ row.length = ks.length ∧ ∀ x ∈ row, Cel (j + 1) x := by
  induction ks with
  | nil => intro j c big acc s7 _ _ _; exact ⟨_, _, [], by simp; exact ⟨rfl, rfl⟩, rfl, by simp⟩
  | cons k ks ih =>
    intro j c big acc s7 h1 h2 h3
    simp only [List.length_cons] at h3
    have hk0 := hk k List.mem_cons_self
    have hd := hw.div
    have hp := hw.1
    have p18 : powOk 10 18 = true := by decide
    have hlen : acc.length < 16777216 := by omega
    cases big with
    | true =>
      have c2 : Cel j (c / w) := by
        have : (c / w).natAbs ≤ c.natAbs := by
          by_cases hc : 0 ≤ c
          · have := Int.ediv_le_self w hc
            have := Int.ediv_nonneg hc (show 0 ≤ w by omega)
            omega
          · have e1 := Int.ediv_mul_le c (show w ≠ 0 by omega)
            have e2 : c ≤ c / w := by
              rcases Int.lt_or_le (c / w) c with h | h
              · exfalso
                have e3 : c < (c / w + 1) * w := Int.lt_ediv_add_one_mul_self c hp
                have e4 : c / w + 1 ≤ c := by omega
                have e5 : (c / w + 1) * w ≤ c * w := Int.mul_le_mul_of_nonneg_right e4 (by omega)
                have e6 : c * w ≤ c * 1 := Int.mul_le_mul_of_nonpos_left (by omega) (by omega)
                omega
              · exact h
            have e7 : c / w ≤ 0 := Int.ediv_nonpos_of_nonpos_of_neg (by omega) (by omega)
            omega
        exact Nat.lt_of_le_of_lt this h1
      obtain ⟨c', s7', row, e, hl, hr⟩ := ih (fun k' h' => hk k' (List.mem_cons_of_mem _ h')) j (c / w) true (acc ++ [1000000000000000000 + c % w]) (.bo [] (.int k)) c2 h2 (by simp; omega)
      refine ⟨c', s7', (1000000000000000000 + c % w) :: row, ?_, by simp [hl], fun x hx => ?_⟩
      · rw [List.map_cons, loopS_cons]
        simp [b_l_split_1_ev, p18, hp, hd, hlen]
        simpa using e
      · rcases List.mem_cons.mp hx with e | hx
        · subst e
          refine Cel.small ?_
          have := Int.emod_nonneg c (show w ≠ 0 by omega)
          have := Int.emod_lt_of_pos c hp
          have : (2 : Nat) ^ 1900 * 2 ≤ 2 ^ 2000 := by rw [← Nat.pow_succ]; exact Nat.pow_le_pow_right (by decide) (by decide)
          have : (2 : Nat) ^ 64 ≤ 2 ^ 1900 := Nat.pow_le_pow_right (by decide) (by decide)
          omega
        · exact hr x hx
    | false =>
      have hm : ((2 * (k : Int) + 3)).natAbs < 2 ^ 64 := by omega
      have ha : (7919 * (k : Int)).natAbs < 2 ^ 64 := by omega
      have m1 : mulOk 2 (k : Int) = true := mulOk_small (by omega) (by omega) (by omega) (by omega)
      have m2 : mulOk 7919 (k : Int) = true := mulOk_small (by omega) (by omega) (by omega) (by omega)
      have m3 : mulOk c (2 * (k : Int) + 3) = true := h1.mul (by omega) hm
      obtain ⟨c', s7', row, e, hl, hr⟩ := ih (fun k' h' => hk k' (List.mem_cons_of_mem _ h')) j c false (acc ++ [c * (2 * (k : Int) + 3) + 7919 * (k : Int)]) (.bo [] (.int k)) h1 h2 (by simp; omega)
      refine ⟨c', s7', (c * (2 * (k : Int) + 3) + 7919 * (k : Int)) :: row, ?_, by simp [hl], fun x hx => ?_⟩
      · rw [List.map_cons, loopS_cons]
        simp [b_l_split_1_ev, m1, m2, m3, hlen]
        simpa using e
      · rcases List.mem_cons.mp hx with e | hx
        · subst e
          exact h1.add hm ha
        · exact hr x hx
/-- 10 ^ 30, 10 ^ 120, 10 ^ 480: what a split cuts off -/
def wA : Int := 10 ^ 60
def wB : Int := wA * wA
def wW (w : Nat) : Int := if w = 0 then 1000000000000000000000000000000 else if w = 1 then wB else wB * wB * wB * wB
theorem mul_lt2 {x y : Int} {a b : Nat} (h1 : x.natAbs < 2 ^ a) (h2 : y.natAbs < 2 ^ b) : (x * y).natAbs < 2 ^ (a + b) := by rw [Int.natAbs_mul, Nat.pow_add]; exact Nat.mul_lt_mul'' h1 h2
theorem wA_lt : wA.natAbs < 2 ^ 200 := by decide +kernel
theorem wA_pos : 0 < wA := by decide +kernel
theorem wB_pos : 0 < wB := Int.mul_pos wA_pos wA_pos
theorem wB_lt : wB.natAbs < 2 ^ 400 := mul_lt2 wA_lt wA_lt
theorem wB2_lt : (wB * wB).natAbs < 2 ^ 800 := mul_lt2 wB_lt wB_lt
theorem wB3_lt : (wB * wB * wB).natAbs < 2 ^ 1200 := mul_lt2 wB2_lt wB_lt
theorem wB4_lt : (wB * wB * wB * wB).natAbs < 2 ^ 1600 := mul_lt2 wB3_lt wB_lt
theorem w30_lt : (1000000000000000000000000000000 : Int).natAbs < 2 ^ 100 := by decide +kernel
theorem w30_pos : 0 < (1000000000000000000000000000000 : Int) := by decide +kernel
theorem wW_lim (w : Nat) : LimOk (wW w) ∧ (wW w).natAbs < 2 ^ 1900 := by
  have up : ∀ {x : Int} {a : Nat}, 0 < x → x.natAbs < 2 ^ a → a ≤ 1900 → LimOk x ∧ x.natAbs < 2 ^ 1900 := fun h0 h1 h2 => ⟨.pow h0 h1 (Nat.le_trans h2 (by decide)), Nat.lt_of_lt_of_le h1 (Nat.pow_le_pow_right (by decide) h2)⟩
  unfold wW
  split
  · exact up w30_pos w30_lt (by decide)
  · split
    · exact up wB_pos wB_lt (by decide)
    · exact up (Int.mul_pos (Int.mul_pos (Int.mul_pos wB_pos wB_pos) wB_pos) wB_pos) wB4_lt (by decide)
theorem wW_at (w : Nat) (hw : w < 3) : atI [D.int 1000000000000000000000000000000, D.int wB, D.int (wB * wB * wB * wB)] (w : Int) = some (.int (wW w)) := by
  match w, hw with
  | 0, _ => rfl
  | 1, _ => rfl
  | 2, _ => rfl
theorem wA_eq : (10 : Int) ^ 60 = wA := id rfl
theorem wB_eq : wA * wA = wB := id rfl
theorem w30_eq : (10 : Int) ^ 30 = 1000000000000000000000000000000 := by decide +kernel
theorem w18_eq : (10 : Int) ^ 18 = 1000000000000000000 := by decide +kernel
theorem split_ev (c : Int) (n w : Nat) (W : Int) (big : Bool) (x y : Sl) (c' : Int) (row : List Int) (hbig : big = decide (1000000000000000000 ≤ c)) (rg : rgOk (n : Int) = true) (hW : atI [D.int 1000000000000000000000000000000, D.int wB, D.int (wB * wB * wB * wB)] (w : Int) = some (.int W))
    (e : loopS (tgN 7) b_l_split_1 ((List.range n).map fun (i : Nat) => .int (i : Int)) [.bo [] (.int c), .bo [] (.int n), .bo [] (.int w), .bo [] (.int wB), .bo [] (.int W), .ow (.lst []), .bo [] (.bl big), .no] =
      .nx [.bo [] (.int c'), .bo [] (.int n), .bo [] (.int w), .bo [] (.int wB), .bo [] (.int W), .ow (.lst (row.map .int)), x, y]) : f_l_split [.int c, .int n, .int w] = .ok (.own, .lst (row.map .int)) := by
  have p18 : powOk 10 18 = true := by decide
  have p30 : powOk 10 30 = true := by decide
  have p60 : powOk 10 60 = true := by decide
  have m1 : mulOk wA wA = true := mulOk_of wA_lt wA_lt (by decide) (by decide) (by decide)
  have m2 : mulOk wB wB = true := mulOk_of wB_lt wB_lt (by decide) (by decide) (by decide)
  have m3 : mulOk (wB * wB) wB = true := mulOk_of wB2_lt wB_lt (by decide) (by decide) (by decide)
  have m4 : mulOk (wB * wB * wB) wB = true := mulOk_of wB3_lt wB_lt (by decide) (by decide) (by decide)
  simp [f_l_split, mkF_ev, b_l_split, p18, p30, p60, wA_eq, wB_eq, m1, m2, m3, m4, rg, rng, hW, ← hbig, e]
theorem split_ok (c : Int) (j : Nat) (n : Nat) (w : Nat) (hc : Cel j c) (hj : j ≤ 30000) (hn : n ≤ 1000) (hw : w < 3) : ∃ row : List Int, f_l_split [.int c, .int n, .int w] = .ok (.own, .lst (row.map .int)) ∧ row.length = n ∧ ∀ x ∈ row, Cel (j + 1) x := by
  have rg : rgOk (n : Int) = true := rgOk_of (by omega) (by omega)
  obtain ⟨l1, l2⟩ := wW_lim w
  obtain ⟨c', s7', row, e, hl, hr⟩ := split_loop (wW w) l1 l2 (.int n) (.int w) (.int wB) (List.range n) (fun k hk => by have := List.mem_range.mp hk; omega) j c (decide (1000000000000000000 ≤ c)) [] .no hc hj (by simp; omega)
  refine ⟨row, split_ev c n w (wW w) _ (.bo [] (.bl (decide (1000000000000000000 ≤ c)))) s7' c' row rfl rg (wW_at w hw) ?_, by simpa using hl, hr⟩
  simpa using e
end Cz
set_option maxHeartbeats 1000000
/-! Lb3: ways: is_way, the law's row_ok, the law's way. -/
namespace Cz
open PySem PySem.Spec PyProof.Rows L2
def wayGo : Int → List Int → Bool
  | _, [] => true
  | ab, x :: xs => decide (0 ≤ x) && decide (x ≤ ab) && wayGo (max ab (x + 1)) xs
/-- a way -/
def isWay (l : List Int) : Bool := decide (1 ≤ l.length) && decide (l.length ≤ 9) && wayGo 0 l
/-- the count of woods ahead -/
def wayAb (ab : Int) (l : List Int) : Int := l.foldl (fun a x => max a (x + 1)) ab
theorem wayGo_app (l m : List Int) : ∀ ab, wayGo ab (l ++ m) = (wayGo ab l && wayGo (wayAb ab l) m) := by
  induction l with
  | nil => intro ab; simp [wayGo, wayAb]
  | cons x l ih => intro ab; simp [wayGo, wayAb, ih, Bool.and_assoc]
theorem wayAb_app (l m : List Int) (ab : Int) : wayAb ab (l ++ m) = wayAb (wayAb ab l) m := by simp [wayAb]
theorem wayAb_max (l : List Int) : ∀ m : Int, wayAb (m + 1) l = l.foldl max m + 1 := by
  induction l with
  | nil => intro m; rfl
  | cons x l ih =>
    intro m
    show wayAb (max (m + 1) (x + 1)) l = l.foldl max (max m x) + 1
    rw [show max (m + 1) (x + 1) = max m x + 1 by omega, ih]
/-! is_way -/
theorem is_way_loop (l : List Int) : ∀ (R : D) (ab : Int) (s : Sl), ∃ ρ, loopS (tgN 2) b_p_is_way_1 (l.map D.int) [.bo [] R, .bo [] (.int ab), s] = if wayGo ab l = true then .nx ρ else .rt .own (.bl false) := by
  induction l with
  | nil => intro R ab s; exact ⟨_, by simp [wayGo]; rfl⟩
  | cons x xs ih =>
    intro R ab s
    obtain ⟨ρ, h⟩ := ih R (max ab (x + 1)) (.bo [] (.int x))
    refine ⟨ρ, ?_⟩
    by_cases h1 : 0 ≤ x <;> by_cases h2 : x ≤ ab <;> simp [loopS_cons, b_p_is_way_1_ev, wayGo, h1, h2]
    exact h
theorem is_way_ok (l : List Int) : f_p_is_way [.tup (l.map .int)] = .ok (.own, .bl (isWay l)) := by
  obtain ⟨ρ, h⟩ := is_way_loop l (.tup (l.map .int)) 0 .no
  unfold isWay
  by_cases h1 : 1 ≤ l.length
  · by_cases h2 : l.length ≤ 9
    · have h1' : (1 : Int) ≤ l.length := by omega
      have h2' : (l.length : Int) ≤ 9 := by omega
      cases h3 : wayGo 0 l <;> simp [f_p_is_way, mkF_ev, b_p_is_way, h, h1, h2, h1', h2', h3]
    · have h1' : (1 : Int) ≤ l.length := by omega
      have h2' : ¬ (l.length : Int) ≤ 9 := by omega
      simp [f_p_is_way, mkF_ev, b_p_is_way, h1, h2, h1', h2']
  · have h1' : ¬ (1 : Int) ≤ l.length := by omega
    simp [f_p_is_way, mkF_ev, b_p_is_way, h1, h1']
/-! row_ok -/
def rowGo : Int → List Int → Bool
  | _, [] => true
  | m, x :: xs => decide (0 ≤ x) && decide (x ≤ m + 1) && rowGo (max m x) xs
theorem rowGo_way (l : List Int) : ∀ m, rowGo m l = wayGo (m + 1) l := by
  induction l with
  | nil => intro m; rfl
  | cons x l ih => intro m; simp only [rowGo, wayGo, ih]; rw [show max (m + 1) (x + 1) = max m x + 1 by omega]
theorem rowGo_all (l : List Int) : ∀ m, rowGo m l = (List.range l.length).all fun i => decide (0 ≤ l.getD i 0) && decide (l.getD i 0 ≤ (l.take i).foldl max m + 1) := by
  induction l with
  | nil => intro m; rfl
  | cons x l ih =>
    intro m
    rw [List.length_cons, List.range_succ_eq_map, List.all_cons, List.all_map]
    simp only [rowGo, ih, Function.comp_def]
    simp
theorem maxL_take (x : Int) (l : List Int) (i : Nat) : maxL ((x :: l).take (i + 1)) = some ((l.take i).foldl max x) := by simp [maxL]
theorem row_ok_ok (l : List Int) : f_l_row_ok [.tup (l.map .int)] = .ok (.own, .bl (isWay l)) := by
  unfold isWay
  by_cases h1 : 1 ≤ l.length
  · by_cases h2 : l.length ≤ 9
    · cases l with
      | nil => simp at h1
      | cons x xs =>
        simp only [List.length_cons] at h1 h2
        have c1 : (1 : Int) ≤ (xs.length : Int) + 1 := by omega
        have c2 : ¬ (9 : Int) < (xs.length : Int) + 1 := by omega
        by_cases hx : x = 0
        · subst hx
          have rg : rgOk ((xs.length : Int) + 1) = true := rgOk_of (by omega) (by omega)
          have rg1 : rgOk 1 = true := rgOk_of (by omega) (by omega)
          have e := lcE_noL (it := rng2I (conE (.int 1)) (bltE bLen (consA (locE 0) nilA))) (own := [1]) (tg := tgN 1) (elt := e_l_row_ok_1) (ρ := [.bo [] (.tup ((0 :: xs).map D.int)), .no]) (k := .own) (l := List.range xs.length) (f := fun i => .int (1 + (i : Int)))
            (h := fun i => .bl (decide (0 ≤ xs.getD i 0) && decide (xs.getD i 0 ≤ (xs.take i).foldl max 0 + 1))) (by simp [rg, rg1, rng]) (by simp) (by simp; omega) (fun i hi => ⟨_, .own, rfl, ?_, rfl⟩)
          · have z := rowGo_all xs 0
            rw [rowGo_way] at z
            simp only [List.map_cons] at e
            simp at z
            have h2' : xs.length ≤ 8 := by omega
            simp [f_l_row_ok, mkF_ev, b_l_row_ok, e, wayGo, c1, c2, z, h2', Function.comp_def, show max (0 : Int) 1 = 1 by decide]
          · have hi := List.mem_range.mp hi
            have e1 : atI (D.int 0 :: xs.map D.int) (1 + (i : Int)) = some (.int (xs.getD i 0)) := by
              rw [atI_nn _ _ (by omega), show (1 + (i : Int)).toNat = i + 1 by omega]
              simp [List.getD, hi]
            have e2 : cutD (D.int 0 :: xs.map D.int) none (some (1 + (i : Int))) = ((0 :: xs).take (i + 1)).map D.int := by
              rw [cut_to _ _ (by omega), show (1 + (i : Int)).toNat = i + 1 by omega]
              simp
            have e3 : intsD (((0 :: xs).take (i + 1)).map D.int) = some ((0 :: xs).take (i + 1)) := intsD_map _
            generalize hq : (0 :: xs).take (i + 1) = q at e2 e3
            have e4 : maxL q = some ((xs.take i).foldl max 0) := by rw [← hq]; exact maxL_take 0 xs i
            by_cases h0 : 0 ≤ xs[i]?.getD 0 <;> simp [e_l_row_ok_1_ev, e1, e2, e3, e4, h0]
        · simp [f_l_row_ok, mkF_ev, b_l_row_ok, hx, wayGo, c1, c2]
          intro _ h3 h4
          omega
    · have c1 : (1 : Int) ≤ (l.length : Int) := by omega
      have c2 : (9 : Int) < (l.length : Int) := by omega
      simp [f_l_row_ok, mkF_ev, b_l_row_ok, c1, c2, h2]
  · have c1 : ¬ (1 : Int) ≤ (l.length : Int) := by omega
    simp [f_l_row_ok, mkF_ev, b_l_row_ok, c1, h1]
end Cz
set_option maxHeartbeats 1000000
/-! Lb4: the law's way. -/
namespace Cz
open PySem PySem.Spec PyProof.Rows L2
theorem foldl_max_ge (l : List Int) : ∀ m : Int, m ≤ l.foldl max m := by
  induction l with
  | nil => intro m; exact Int.le_refl _
  | cons x l ih => intro m; exact Int.le_trans (Int.le_max_left _ _) (ih _)
theorem way_loop (ls : List Int) (hl : ∀ x ∈ ls, 0 ≤ x) (a0 a1 a2 : D) (cap : Int) (hc : 1 ≤ cap) : ∀ (acc : List Int) (s5 : Sl), acc.length + ls.length < 1000000 →
    ∃ (s5' : Sl) (row : List Int), loopS (tgN 5) b_l_way_2 (ls.map D.int) [.bo [] a0, .bo [] a1, .ow a2, .bo [] (.int cap), .ow (.lst (acc.map .int)), s5, .no] =
      .nx [.bo [] a0, .bo [] a1, .ow a2, .bo [] (.int cap), .ow (.lst ((acc ++ row).map .int)), s5', .no] ∧ wayGo (wayAb 0 acc) row = true ∧ row.length = ls.length := by
  induction ls with
  | nil => intro acc s5 _; exact ⟨s5, [], by simp, rfl, rfl⟩
  | cons x ls ih =>
    intro acc s5 h
    simp only [List.length_cons] at h
    have hx := hl x List.mem_cons_self
    have hab : wayAb 0 acc = acc.foldl max (-1) + 1 := by have := wayAb_max acc (-1); simpa using this
    have hge := foldl_max_ge acc (-1)
    obtain ⟨m, hm⟩ : ∃ m, m = acc.foldl max (-1) := ⟨_, rfl⟩
    rw [← hm] at hab hge
    have hp : 0 < m + 2 := by omega
    obtain ⟨v, hv⟩ : ∃ v, v = min (cap - 1) (x % (m + 2)) := ⟨_, rfl⟩
    have b1 := Int.emod_nonneg x (show m + 2 ≠ 0 by omega)
    have b2 := Int.emod_lt_of_pos x hp
    have v1 : 0 ≤ v := by omega
    have v2 : v ≤ m + 1 := by omega
    obtain ⟨s5', row, e, g, r⟩ := ih (fun y hy => hl y (List.mem_cons_of_mem _ hy)) (acc ++ [v]) (.bo [] (.int x)) (by simp; omega)
    have k1 : acc.length < 16777216 := by omega
    have k2 : 1 + acc.length ≤ 16777216 := by omega
    refine ⟨s5', v :: row, ?_, ?_, by simp [r]⟩
    · rw [List.map_cons, loopS_cons]
      simp [b_l_way_2_ev, k1, k2, ← hm, hp, ← hv]
      simpa using e
    · rw [wayAb_app] at g
      simp only [wayGo, hab, decide_eq_true v1, decide_eq_true v2, Bool.true_and]
      rw [← hab]
      exact g
theorem way_ok (c : Int) (n : Nat) (hn : n ≤ 1000) : ∃ row : List Int, f_l_way [.int c, .int n] = .ok (.own, .tup (row.map .int)) ∧ wayGo 0 row = true ∧ row.length = n := by
  have rg : rgOk (n : Int) = true := rgOk_of (by omega) (by omega)
  have e1 := lcE_noL (it := rng1I (locE 1)) (own := [6]) (tg := tgN 6) (elt := e_l_way_1) (ρ := [.bo [] (.int c), .bo [] (.int n), .no, .no, .no, .no, .no]) (k := .own) (l := List.range n) (f := fun i => .int (0 + (i : Int))) (h := fun i => .int ((0 + (i : Int)) + 1))
    (by simp [rg, rng]) (by simp) (by simp; omega) (fun i hi => ⟨_, .own, rfl, by simp [e_l_way_1_ev], rfl⟩)
  obtain ⟨row, e2, r2⟩ := draw_ok c (4 :: (List.range n).map fun (i : Nat) => (0 + (i : Int)) + 1) (by
    intro l hl
    rcases List.mem_cons.mp hl with h | h
    · subst h; exact .of (by decide) (by decide)
    · obtain ⟨i, hi, e⟩ := List.mem_map.mp h
      have := List.mem_range.mp hi
      subst e; exact .of (by omega) (by omega)) (by simp; omega)
  cases r2 with
  | @cons _ x0 _ xs h1 h2 r3 =>
    have hl := r3.len
    have hpos : ∀ x ∈ xs, 0 ≤ x := fun x hx => by
      obtain ⟨i, hi, e⟩ := List.getElem_of_mem hx
      have hi' : i < ((List.range n).map fun (i : Nat) => (0 + (i : Int)) + 1).length := by rw [← hl]; exact hi
      obtain ⟨y, h3, h4, _⟩ := r3.get (i := i) (l := _) (List.getElem?_eq_getElem hi')
      rw [List.getElem?_eq_getElem hi, e] at h3
      cases h3; exact h4
    obtain ⟨cap, hcap, hc1⟩ : ∃ cap : Int, atI [D.int 9, D.int 2, D.int 3, D.int 9] x0 = some (.int cap) ∧ 1 ≤ cap := by
      rcases (show x0 = 0 ∨ x0 = 1 ∨ x0 = 2 ∨ x0 = 3 by omega) with h | h | h | h <;> subst h
      · exact ⟨9, rfl, by decide⟩
      · exact ⟨2, rfl, by decide⟩
      · exact ⟨3, rfl, by decide⟩
      · exact ⟨9, rfl, by decide⟩
    simp at hl
    obtain ⟨s5', row', e3, g, r4⟩ := way_loop xs hpos (.int c) (.int n) (.lst ((x0 :: xs).map .int)) cap hc1 [] .no (by simp; omega)
    refine ⟨row', ?_, g, by omega⟩
    simp [Function.comp_def] at e1 e2 e3
    have e4 : cutD (D.int x0 :: xs.map D.int) (some 1) none = xs.map D.int := by rw [cut_from _ _ (by decide)]; rfl
    have k1 : 1 + n ≤ 16777216 := by omega
    simp [f_l_way, mkF_ev, b_l_way, e1, e2, hcap, e4, e3, k1]
end Cz
set_option maxHeartbeats 1000000
/-! Lc1: numbered rows, the laws' looks at what was told. -/
namespace Cz
open PySem PySem.Spec PyProof.Rows L2
@[simp] theorem kit_ii : kitB "int" "int" = some true := by decide +kernel
@[simp] theorem kit_ib : kitB "int" "bool" = some false := by decide +kernel
@[simp] theorem kit_bi : kitB "bool" "int" = some true := by decide +kernel
@[simp] theorem kit_bb : kitB "bool" "bool" = some true := by decide +kernel
@[simp] theorem kit_tt : kitB "tuple" "tuple" = some true := by decide +kernel
@[simp] theorem kit_lt : kitB "list" "tuple" = some false := by decide +kernel
@[simp] theorem kit_ll : kitB "list" "list" = some true := by decide +kernel
@[simp] theorem kit_tl : kitB "tuple" "list" = some false := by decide +kernel
@[simp] theorem kit_il : kitB "int" "list" = some false := by decide +kernel
@[simp] theorem kit_bl : kitB "bool" "list" = some false := by decide +kernel
@[simp] theorem kit_nl : kitB "NoneType" "list" = some false := by decide +kernel
@[simp] theorem kit_ss : kitB "str" "str" = some true := by decide +kernel
@[simp] theorem kit_sl : kitB "str" "list" = some false := by decide +kernel
@[simp] theorem kit_ls : kitB "list" "str" = some false := by decide +kernel
@[simp] theorem kit_lb : kitB "list" "bool" = some false := by decide +kernel
@[simp] theorem tyD_non : tyD .non = "NoneType" := id rfl
@[simp] theorem tyD_int {i : Int} : tyD (.int i) = "int" := id rfl
@[simp] theorem tyD_bl {i : Bool} : tyD (.bl i) = "bool" := id rfl
@[simp] theorem tyD_str {i : Str} : tyD (.str i) = "str" := id rfl
@[simp] theorem tyD_tup {i : List D} : tyD (.tup i) = "tuple" := id rfl
@[simp] theorem tyD_lst {i : List D} : tyD (.lst i) = "list" := id rfl
@[simp] theorem num_ok (i : Int) : f_l_num [.int i] = .ok (.own, .bl true) := by simp [f_l_num, mkF_ev, b_l_num]
@[simp] theorem refused_ok : f_l_refused [.lst [.str "refused"]] = .ok (.own, .bl true) := by
  have e : eqD (.str "refused") (.str "refused") = some true := by rw [eqD_str (by decide +kernel) (by decide +kernel)]; simp
  simp [f_l_refused, mkF_ev, b_l_refused, e]
theorem way_ok_ok (l : List Int) (n : Int) (hl : l.length ≤ 1000) : f_l_way_ok [.tup (l.map .int), .int n] = .ok (.own, .bl (decide ((l.length : Int) = n) && isWay l)) := by
  have e := lcE_noL (it := seqI (locE 0)) (own := [2]) (tg := tgN 2) (elt := e_l_way_ok_1) (ρ := [.bo [] (.tup (l.map .int)), .bo [] (.int n), .no]) (k := .bor []) (l := l) (f := .int) (h := fun _ => .bl true)
    (by simp) (by simp) (by omega) (fun i _ => ⟨_, .own, rfl, by simp [e_l_way_ok_1_ev], rfl⟩)
  have e2 : blsD (l.map fun _ => D.bl true) = some (l.map fun _ => true) := blsD_fn _ _
  by_cases h : (l.length : Int) = n
  · simp [f_l_way_ok, mkF_ev, b_l_way_ok, h, e, e2, row_ok_ok]
  · simp [f_l_way_ok, mkF_ev, b_l_way_ok, h]
/-! rows of the first places -/
def seenI (s : List Int) (n : Int) : List Int := if n ∈ s then s else s ++ [n]
def numGo : List Int → List Int → List Int
  | _, [] => []
  | s, n :: r => ((seenI s n).idxOf n : Int) :: numGo (seenI s n) r
def numW (l : List Int) : List Int := numGo [] l
theorem numGo_len (l : List Int) : ∀ s, (numGo s l).length = l.length := by
  induction l with
  | nil => intro s; rfl
  | cons n l ih => intro s; simp [numGo, ih]
@[simp] theorem numW_len (l : List Int) : (numW l).length = l.length := numGo_len l []
theorem seenI_mem (s : List Int) (n : Int) : n ∈ seenI s n := by unfold seenI; split <;> simp_all
theorem numGo_way (l : List Int) : ∀ s, wayGo s.length (numGo s l) = true := by
  induction l with
  | nil => intro s; rfl
  | cons n l ih =>
    intro s
    have ih := ih (seenI s n)
    simp only [numGo, wayGo]
    by_cases h : n ∈ s
    · have e : seenI s n = s := if_pos h
      have h1 := List.idxOf_lt_length_of_mem h
      rw [e] at ih ⊢
      rw [show max (s.length : Int) ((s.idxOf n : Int) + 1) = s.length by omega, ih]
      simp; omega
    · have e : seenI s n = s ++ [n] := if_neg h
      have h1 : (s ++ [n]).idxOf n = s.length := by rw [List.idxOf_append, if_neg h]; simp
      rw [e] at ih ⊢
      rw [h1, show max (s.length : Int) ((s.length : Int) + 1) = ((s ++ [n]).length : Int) by simp; omega, ih]
      simp
theorem numW_way {l : List Int} (h1 : 1 ≤ l.length) (h2 : l.length ≤ 9) : isWay (numW l) = true := by
  have := numGo_way l []
  unfold isWay
  rw [numW_len]
  simp only [h1, h2, decide_true, Bool.true_and]
  exact this
theorem numbered_loop (a0 : D) (l : List Int) : ∀ (s row : List Int) (x : Sl), s.length + l.length < 1000000 → row.length + l.length < 1000000 → ∃ s' x', loopS (tgN 3) b_p_numbered_1 (l.map D.int) [.bo [] a0, .ow (.dic (kvF 0 s)), .ow (.lst (row.map .int)), x] =
    .nx [.bo [] a0, s', .ow (.lst ((row ++ numGo s l).map .int)), x'] := by
  induction l with
  | nil => intro s row x _ _; exact ⟨_, _, by simp [numGo]; exact ⟨rfl, rfl⟩⟩
  | cons n l ih =>
    intro s row x h1 h2
    simp only [List.length_cons] at h1 h2
    have k1 : row.length < 16777216 := by omega
    have k2 : s.length < 16777216 := by omega
    have hv := kvF_val n s 0
    by_cases h : n ∈ s
    · have e : seenI s n = s := if_pos h
      rw [if_pos h] at hv
      obtain ⟨s', x', e2⟩ := ih s (row ++ [(s.idxOf n : Int)]) (.bo [] (.int n)) (by omega) (by simp; omega)
      refine ⟨s', x', ?_⟩
      rw [List.map_cons, loopS_cons]
      simp [b_p_numbered_1_ev, hv, k1, numGo, e]
      simpa using e2
    · have e : seenI s n = s ++ [n] := if_neg h
      rw [if_neg h] at hv
      have hp := kvF_put h
      have hv2 := kvF_val n (s ++ [n]) 0
      rw [if_pos (by simp)] at hv2
      obtain ⟨s', x', e2⟩ := ih (s ++ [n]) (row ++ [((s ++ [n]).idxOf n : Int)]) (.bo [] (.int n)) (by simp; omega) (by simp; omega)
      refine ⟨s', x', ?_⟩
      rw [List.map_cons, loopS_cons]
      simp [b_p_numbered_1_ev, hv, k1, k2, numGo, e, hp, hv2]
      simpa using e2
@[simp] theorem intsD_mapI (l : List Int) : intsD (l.map D.int) = some l := intsD_map _
theorem numbered_ok (l : List Int) (d : D) (hd : d = .lst (l.map .int) ∨ d = .tup (l.map .int)) (hl : l.length < 1000000) : f_p_numbered [d] = .ok (.own, .tup ((numW l).map .int)) := by
  obtain ⟨s', x', e⟩ := numbered_loop d l [] [] .no (by simpa using hl) (by simpa using hl)
  simp only [kvF, List.map_nil, List.nil_append] at e
  rcases hd with rfl | rfl <;> simp [f_p_numbered, mkF_ev, b_p_numbered, e, numW]
theorem number_row_loop (a0 : D) (l : List Int) : ∀ (s row : List Int) (x : Sl), s.length + l.length < 1000000 → row.length + l.length < 1000000 → ∃ s' x', loopS (tgN 3) b_l_number_row_1 (l.map D.int) [.bo [] a0, .ow (.lst (s.map .int)), .ow (.lst (row.map .int)), x] =
    .nx [.bo [] a0, s', .ow (.lst ((row ++ numGo s l).map .int)), x'] := by
  induction l with
  | nil => intro s row x _ _; exact ⟨_, _, by simp [numGo]; exact ⟨rfl, rfl⟩⟩
  | cons n l ih =>
    intro s row x h1 h2
    simp only [List.length_cons] at h1 h2
    have k1 : row.length < 16777216 := by omega
    have k2 : s.length < 16777216 := by omega
    have hi := opIdx_ints (seenI_mem s n)
    obtain ⟨s', x', e2⟩ := ih (seenI s n) (row ++ [((seenI s n).idxOf n : Int)]) (.bo [] (.int n)) (by unfold seenI; split <;> (try simp) <;> omega) (by simp; omega)
    refine ⟨s', x', ?_⟩
    rw [List.map_cons, loopS_cons]
    by_cases h : n ∈ s
    · have e : seenI s n = s := if_pos h
      rw [e] at hi e2
      simp [b_l_number_row_1_ev, h, k1, numGo, e, -opIdx_ev, hi]
      simpa using e2
    · have e : seenI s n = s ++ [n] := if_neg h
      rw [e] at hi e2
      simp only [List.map_append, List.map_cons, List.map_nil] at hi
      simp [b_l_number_row_1_ev, h, k1, k2, numGo, e, -opIdx_ev, hi]
      simpa using e2
theorem number_row_ok (l : List Int) (d : D) (hd : d = .lst (l.map .int) ∨ d = .tup (l.map .int)) (hl : l.length < 1000000) : f_l_number_row [d] = .ok (.own, .tup ((numW l).map .int)) := by
  obtain ⟨s', x', e⟩ := number_row_loop d l [] [] .no (by simpa using hl) (by simpa using hl)
  simp only [List.map_nil, List.nil_append] at e
  rcases hd with rfl | rfl <;> simp [f_l_number_row, mkF_ev, b_l_number_row, e, numW]
/-! the law's turns -/
/-- limits as they are written, great ones -/
theorem draw_big (c : Int) (ls : List Int) (h : ls.all (fun l => decide (0 < l) && decide (l < 100000000000000000000000000000000000000000000000000)) = true) (hn : ls.length < 16777216) : ∃ row, f_l_draw [.int c, .lst (ls.map .int)] = .ok (.own, .lst (row.map .int)) ∧ InR ls row := by
  refine draw_ok c ls (fun l hl => ?_) hn
  have := List.all_eq_true.mp h l hl
  simp at this
  refine .pow (n := 200) this.1 ?_ (by decide)
  have : (100000000000000000000000000000000000000000000000000 : Nat) < 2 ^ 200 := by decide
  omega
/-- it goes on, and P -/
def Good (P : Env → Prop) (o : Out) : Prop := ∃ ρ', P ρ' ∧ (o = .nx ρ' ∨ o = .ct ρ')
@[simp] theorem good_nx {P : Env → Prop} {ρ : Env} : Good P (.nx ρ) ↔ P ρ := ⟨fun ⟨_, h, e⟩ => by rcases e with e | e <;> cases e; exact h, fun h => ⟨_, h, .inl rfl⟩⟩
@[simp] theorem good_ct {P : Env → Prop} {ρ : Env} : Good P (.ct ρ) ↔ P ρ := ⟨fun ⟨_, h, e⟩ => by rcases e with e | e <;> cases e; exact h, fun h => ⟨_, h, .inr rfl⟩⟩
/-- a loop all of whose turns go on -/
theorem loop_good {tg : Tgt} {b : SS} (P : Env → Prop) : ∀ {ds : List D} {ρ : Env}, (∀ d ∈ ds, ∀ ρ, P ρ → ∃ ρ1, tg (.bor []) d ρ = some ρ1 ∧ Good P (b ρ1)) → P ρ → ∃ ρ', P ρ' ∧ loopS tg b ds ρ = .nx ρ'
  | [], ρ, _, h => ⟨ρ, h, rfl⟩
  | d :: ds, ρ, hb, h => by
    obtain ⟨ρ1, e1, ρ2, h2, e2⟩ := hb d List.mem_cons_self ρ h
    obtain ⟨ρ3, h3, e3⟩ := loop_good P (b := b) (tg := tg) (ds := ds) (fun d' hd => hb d' (List.mem_cons_of_mem _ hd)) h2
    refine ⟨ρ3, h3, ?_⟩
    rw [loopS_cons, e1]
    rcases e2 with e2 | e2 <;> simp only [e2, turn_nx, turn_ct] <;> exact e3
theorem good_loop {tg : Tgt} {b : SS} {ds : List D} {ρ : Env} {P : Env → Prop} (Q : Env → Prop) (hb : ∀ d ∈ ds, ∀ ρ, Q ρ → ∃ ρ1, tg (.bor []) d ρ = some ρ1 ∧ Good Q (b ρ1)) (h : Q ρ) (hk : ∀ ρ', Q ρ' → P ρ') : Good P (loopS tg b ds ρ) := by
  obtain ⟨ρ', h1, e⟩ := loop_good Q hb h
  rw [e, good_nx]; exact hk ρ' h1
theorem good_seq {tg : Tgt} {b : SS} {ds : List D} {ρ : Env} {P : Env → Prop} {f : Env → Out} (Q : Env → Prop) (hb : ∀ d ∈ ds, ∀ ρ, Q ρ → ∃ ρ1, tg (.bor []) d ρ = some ρ1 ∧ Good Q (b ρ1)) (h : Q ρ) (hk : ∀ ρ', Q ρ' → Good P (f ρ')) : Good P ((loopS tg b ds ρ).seq f) := by
  obtain ⟨ρ', h1, e⟩ := loop_good Q hb h
  rw [e, seq_nx]; exact hk ρ' h1
theorem good_step {a r : SS} {ρ : Env} {P : Env → Prop} (ρ' : Env) (h : a ρ = .nx ρ') (k : Good P (r ρ')) : Good P (seqS a r ρ) := by rw [seqS_ev, h, seq_nx]; exact k
theorem seq_step {a r : SS} {ρ ρ' : Env} (h : a ρ = .nx ρ') : seqS a r ρ = r ρ' := by rw [seqS_ev, h, seq_nx]
theorem mem_rng {d : D} {lo : Int} {n : Nat} (h : d ∈ rng lo n) : ∃ i : Nat, i < n ∧ d = .int (lo + (i : Int)) := by
  unfold rng at h
  obtain ⟨i, hi, e⟩ := List.mem_map.mp h
  exact ⟨i, List.mem_range.mp hi, e.symm⟩
theorem law_turns {b : SS} {i : Nat} (P : Env → Prop) (hb : ∀ (k : Nat) (ρ : Env), k < 1000 → P ρ → Good P (b (ρ.set i (.bo [] (.int k))))) (n : Nat) (hn : n ≤ 1000) {ρ : Env} (h : P ρ) :
    ∃ ρ', P ρ' ∧ loopS (tgN i) b ((List.range n).map fun (i : Nat) => .int (i : Int)) ρ = .nx ρ' := by
  have go : ∀ (ks : List Nat), (∀ k ∈ ks, k < 1000) → ∀ ρ, P ρ → ∃ ρ', P ρ' ∧ loopS (tgN i) b (ks.map fun (i : Nat) => .int (i : Int)) ρ = .nx ρ' := by
    intro ks
    induction ks with
    | nil => intro _ ρ h; exact ⟨ρ, h, rfl⟩
    | cons k ks ih =>
      intro hk ρ h
      obtain ⟨ρ1, h1, e1⟩ := hb k ρ (hk k List.mem_cons_self) h
      obtain ⟨ρ2, h2, e2⟩ := ih (fun k' h' => hk k' (List.mem_cons_of_mem _ h')) ρ1 h1
      refine ⟨ρ2, h2, ?_⟩
      rw [List.map_cons, loopS_cons]
      simp only [tgN_ev, mkS_int]
      rcases e1 with e1 | e1 <;> rw [e1]
      · rw [turn_nx]; exact e2
      · rw [turn_ct]; exact e2
  exact go _ (fun k hk => by have := List.mem_range.mp hk; omega) ρ h
end Cz
set_option maxHeartbeats 2000000
/-! Lt1: texts by their signs. -/
namespace Cz
open PySem PySem.Spec PyProof.Rows L2
/-- a text by its signs -/
def tx (l : List Nat) : Str := ⟨l.toArray⟩
theorem tx_app (a b : List Nat) : tx a ++ tx b = tx (a ++ b) := by
  show Str.mk _ = Str.mk _
  simp [tx]
theorem tx_len (a : List Nat) : (tx a).length = a.length := by simp [tx, Str.length]
theorem tx_inj {a b : List Nat} (h : tx a = tx b) : a = b := by
  have := congrArg (fun s : Str => s.cps.toList) h
  simpa [tx] using this
theorem tx_bar : ("|" : Str) = tx [124] := by decide +kernel
theorem tx_plus : ("+" : Str) = tx [43] := by decide +kernel
theorem tx_hash : ("#" : Str) = tx [35] := by decide +kernel
theorem tx_dash : ("-" : Str) = tx [45] := by decide +kernel
theorem tx_blank : (" " : Str) = tx [32] := by decide +kernel
theorem tx_lf : ("\n" : Str) = tx [10] := by decide +kernel
theorem tx_nil : ("" : Str) = tx [] := by decide +kernel
theorem join_eq (s : Str) (ys : List Str) : Txt.join s ys = Str.join s ys := by unfold Txt.join; rw [StrLaws.glued_eq_join]
theorem join_ones' : ∀ cs : List Nat, Txt.join "" (cs.map fun c => tx [c]) = tx cs := fun cs => by
  rw [join_eq, tx_nil]
  induction cs with
  | nil => rfl
  | cons c cs ih =>
    cases cs with
    | nil => rfl
    | cons d ds =>
      show tx [c] ++ tx [] ++ Str.join (tx []) ((d :: ds).map fun c => tx [c]) = _
      rw [ih, tx_app, tx_app]; rfl
theorem strOk_app {a b : Str} (h1 : PyData.strOk a = true) (h2 : PyData.strOk b = true) : PyData.strOk (a ++ b) = true := by
  show (a.cps ++ b.cps).all _ = true
  rw [Array.all_append]; simp only [Bool.and_eq_true]; exact ⟨h1, h2⟩
theorem strOk_tx {cs : List Nat} (h : ∀ c ∈ cs, c < 1114112) : PyData.strOk (tx cs) = true := by
  show (cs.toArray).all _ = true
  simp; exact h
theorem strOk_join {s : Str} (hs : PyData.strOk s = true) : ∀ {ys : List Str}, (∀ y ∈ ys, PyData.strOk y = true) → PyData.strOk (Str.join s ys) = true
  | [], _ => by rw [show Str.join s [] = Str.empty from rfl]; decide +kernel
  | [y], h => h y (by simp)
  | x :: y :: ys, h => strOk_app (strOk_app (h x (by simp)) hs) (strOk_join hs (ys := y :: ys) fun z hz => h z (by simp at hz ⊢; exact .inr hz))
end Cz
set_option maxHeartbeats 2000000
/-! Lc36: names. -/
namespace Cz
open PySem PySem.Spec PyProof.Rows L2
@[simp] theorem lenD_str' (z : Str) : lenD (.str z) = if z.length ≤ 16777216 then some z.length else none := id rfl
def lets : List Nat := (List.range 26).map (· + 97)
theorem lets_tx : ("abcdefghijklmnopqrstuvwxyz" : Str) = tx lets := by decide +kernel
theorem mem_lets {c : Nat} : c ∈ lets ↔ 97 ≤ c ∧ c < 123 := by
  unfold lets
  simp only [List.mem_map, List.mem_range]
  exact ⟨fun ⟨i, h1, h2⟩ => by omega, fun h => ⟨c - 97, by omega, by omega⟩⟩
def letB (c : Nat) : Bool := decide (c ∈ lets)
/-- whether a text is a name -/
def goodN (y : Str) : Bool := decide (1 ≤ y.length) && decide (y.length ≤ 12) && y.cps.toList.all letB
theorem goodN_len {y : Str} (h : goodN y = true) : 1 ≤ y.length ∧ y.length ≤ 12 := by
  simp [goodN] at h; exact h.1
theorem goodN_ok {y : Str} (h : goodN y = true) : PyData.strOk y = true := by
  simp only [goodN, Bool.and_eq_true, List.all_eq_true] at h
  show y.cps.all _ = true
  rw [← Array.all_toList, List.all_eq_true]
  intro c hc
  have := of_decide_eq_true (h.2 c hc)
  rw [mem_lets] at this
  exact decide_eq_true (by omega)
theorem goodN_tx {l : List Nat} (h1 : 1 ≤ l.length) (h2 : l.length ≤ 12) (h : ∀ c ∈ l, 97 ≤ c ∧ c < 123) : goodN (tx l) = true := by
  simp only [goodN, tx_len, Bool.and_eq_true, decide_eq_true_eq, List.all_eq_true]
  exact ⟨⟨h1, h2⟩, fun c hc => decide_eq_true (mem_lets.mpr (h c (by simpa [tx] using hc)))⟩
theorem good_name_ok (y : Str) (hy : y.length ≤ 16777216) : f_p_good_name [.str y] = .ok (.own, .bl (goodN y)) := by
  have hl : y.cps.toList.length = y.length := by simp [Str.length]
  have e1 := lcE_noL (it := seqI (locE 0)) (own := [1]) (tg := tgN 1) (elt := e_p_good_name_1) (k := .own) (l := y.cps.toList) (f := fun c => .str ⟨#[c]⟩) (h := fun c => .bl (letB c))
    (ρ := [.bo [] (.str y), .no]) (by simp) (by simp) (by omega) (fun c hc => ⟨_, .own, rfl, by
      have : inD (.str ⟨#[c]⟩) (.str ("abcdefghijklmnopqrstuvwxyz" : Str)) = some (letB c) := by
        rw [lets_tx]; rfl
      simp [e_p_good_name_1_ev, this], rfl⟩)
  have e2 : blsD (y.cps.toList.map fun c => D.bl (letB c)) = some (y.cps.toList.map letB) := blsD_fn _ _
  have e3 : (y.cps.toList.map letB).all id = y.cps.toList.all letB := by rw [List.all_map]; rfl
  by_cases h1 : 1 ≤ y.length
  · have h1' : (1 : Int) ≤ (y.length : Int) := by omega
    by_cases h2 : y.length ≤ 12
    · have h2' : (y.length : Int) ≤ 12 := by omega
      simp [f_p_good_name, mkF_ev, b_p_good_name, e1, e2, e3, h1, h2, h1', h2', hy, goodN]
    · have h2' : ¬ (y.length : Int) ≤ 12 := by omega
      simp [f_p_good_name, mkF_ev, b_p_good_name, h1, h2, h1', h2', hy, goodN]
  · have h1' : ¬ (1 : Int) ≤ (y.length : Int) := by omega
    simp [f_p_good_name, mkF_ev, b_p_good_name, h1, h1', hy, goodN]
end Cz
set_option maxHeartbeats 4000000
/-! Lc37: the law's names. -/
namespace Cz
open PySem PySem.Spec PyProof.Rows L2
@[simp] theorem idxB_str {k : Kd} {z : Str} {i : Int} : idxB (k, .str z) (.int i) = if z.length ≤ 16777216 then (atI z.cps.toList i).map fun c => (.own, .str ⟨#[c]⟩) else none := id rfl
theorem getD_memX {r : List Int} {i : Nat} (h : i < r.length) : r.getD i 0 ∈ r := by simp [List.getD, h]
theorem atX {u : List Int} {k : Nat} (h : k < u.length) : atI (u.map D.int) (k : Int) = some (.int (u.getD k 0)) := by
  rw [atI_nn _ _ (by omega)]; simp [List.getD, h]
def ltn (n : Int) : Nat := 97 + (n % 26).toNat
theorem ltn_rng (n : Int) : 97 ≤ ltn n ∧ ltn n < 123 := by unfold ltn; omega
theorem lets_at (n : Int) : atI (tx lets).cps.toList (n % 26) = some (ltn n) := by
  rw [atI_nn _ _ (by omega)]
  have : ∀ k < 26, (tx lets).cps.toList[k]? = some (97 + k) := by decide +kernel
  rw [this _ (by omega)]; rfl
/-- a name whose sign at a place tells its number -/
def NmAt (p : Nat) (x : Int) (j : Nat) (y : Str) : Prop := goodN y = true ∧ y.cps.toList[p]? = some (ltn (x + 5 * j))
theorem names_step (z : Int) (n : Nat) (hn : n ≤ 9) (row : List Int) (rl : row.length = 4 + n + 12 * n) (hr : ∀ x ∈ row, 0 ≤ x ∧ x < 26) (h0 : row.getD 0 0 < 12) (j : Nat) (hj : j < n) (acc : List Str) (ha : acc.length < 1000) (s6 s7 : Sl) :
    ∃ y s6' s7', NmAt (row.getD 0 0).toNat (row.getD 3 0) j y ∧ b_l_names_3 [.bo [] (.int z), .bo [] (.int n), .bo [] (.str "abcdefghijklmnopqrstuvwxyz"), .bo [] (.int j), .ow (.lst (row.map .int)), .ow (.lst (acc.map .str)), s6, s7, .no, .no] =
      .nx [.bo [] (.int z), .bo [] (.int n), .bo [] (.str "abcdefghijklmnopqrstuvwxyz"), .bo [] (.int j), .ow (.lst (row.map .int)), .ow (.lst ((acc ++ [y]).map .str)), s6', s7', .no, .no] := by
  have at1 : ∀ i : Nat, i < row.length → atI (row.map D.int) (i : Int) = some (.int (row.getD i 0)) := fun i h => atX h
  have rb : ∀ i : Nat, i < row.length → 0 ≤ row.getD i 0 ∧ row.getD i 0 < 26 := fun i h => hr _ (getD_memX h)
  have a0 : atI (row.map D.int) 0 = some (.int (row.getD 0 0)) := at1 0 (by omega)
  have a1 : atI (row.map D.int) 1 = some (.int (row.getD 1 0)) := at1 1 (by omega)
  have a2 : atI (row.map D.int) 2 = some (.int (row.getD 2 0)) := at1 2 (by omega)
  have a3 : atI (row.map D.int) 3 = some (.int (row.getD 3 0)) := at1 3 (by omega)
  have a4 : atI (row.map D.int) (4 + (j : Int)) = some (.int (row.getD (4 + j) 0)) := by have := at1 (4 + j) (by omega); simpa using this
  have b0 := rb 0 (by omega); have b4 := rb (4 + j) (by omega); have b3 := rb 3 (by omega)
  obtain ⟨p, hp⟩ : ∃ p : Nat, row.getD 0 0 = (p : Int) := ⟨(row.getD 0 0).toNat, by omega⟩
  have a5 : ∀ k : Nat, k < 12 → atI (row.map D.int) (4 + (n : Int) + 12 * j + (k : Int)) = some (.int (row.getD (4 + n + 12 * j + k) 0)) := fun k hk => by
    have := at1 (4 + n + 12 * j + k) (by omega)
    simpa using this
  rw [hp] at a0 h0
  obtain ⟨sz, hsz, hs1, hs2⟩ : ∃ sz : Nat, (p : Int) + 1 + row.getD (4 + j) 0 % (12 - (p : Int)) = (sz : Int) ∧ p < sz ∧ sz ≤ 12 := by
    have m1 := Int.emod_nonneg (row.getD (4 + j) 0) (show (12 - (p : Int)) ≠ 0 by omega)
    have m2 := Int.emod_lt_of_pos (row.getD (4 + j) 0) (show 0 < (12 - (p : Int)) by omega)
    exact ⟨((p : Int) + 1 + row.getD (4 + j) 0 % (12 - (p : Int))).toNat, by omega, by omega, by omega⟩
  obtain ⟨v, hv⟩ : ∃ v, v = row.getD 3 0 + 5 * (j : Int) := ⟨_, rfl⟩
  obtain ⟨sg, hsg⟩ : ∃ sg : Nat → Int, sg = fun k => if row.getD 1 0 = 0 then row.getD (4 + n + 12 * j + k) 0 else row.getD 2 0 := ⟨_, rfl⟩
  have mo : mulOk 12 (j : Int) = true := mulOk_small (by omega) (by omega) (by omega) (by omega)
  have mo5 : mulOk 5 (j : Int) = true := mulOk_small (by omega) (by omega) (by omega) (by omega)
  have mon : mulOk 12 (n : Int) = true := mulOk_small (by omega) (by omega) (by omega) (by omega)
  have e1 := lcE_noL (it := rng1I (locE 6)) (own := [8]) (tg := tgN 8) (elt := e_l_names_4) (k := .own) (l := List.range sz) (f := fun k : Nat => .int (k : Int)) (h := fun k => .int (sg k))
    (ρ := [.bo [] (.int z), .bo [] (.int n), .bo [] (.str "abcdefghijklmnopqrstuvwxyz"), .bo [] (.int j), .ow (.lst (row.map .int)), .ow (.lst (acc.map .str)), .bo [] (.int sz), s7, .no, .no]) (by simp [rng, show rgOk (sz : Int) = true from rgOk_of (by omega) (by omega)]) (by simp) (by simp; omega) (fun k hk => ⟨_, .bor [4], rfl, by
      have hk' := List.mem_range.mp hk
      have a5' := a5 k (by omega)
      rw [hsg]
      by_cases q : row.getD 1 0 = 0
      · simp only [q] at a1 ⊢
        simp [e_l_names_4_ev, a1, mo, a5', -List.getD_eq_getElem?_getD, -atI_0, -atI_1, -atI_ofNat]
      · generalize row.getD 1 0 = u at *
        simp [e_l_names_4_ev, a1, a2, q, -List.getD_eq_getElem?_getD, -atI_0, -atI_1, -atI_ofNat], rfl⟩)
  obtain ⟨gs, hgs⟩ : ∃ gs : List Int, gs = ((List.range sz).map sg).set p v := ⟨_, rfl⟩
  have gl : gs.length = sz := by rw [hgs]; simp
  have e2 := lcE_noL (it := seqI (locE 7)) (own := [9]) (tg := tgN 9) (elt := e_l_names_5) (k := .bor [7]) (l := gs) (f := .int) (h := fun g => .str (tx [ltn g]))
    (ρ := [.bo [] (.int z), .bo [] (.int n), .bo [] (.str "abcdefghijklmnopqrstuvwxyz"), .bo [] (.int j), .ow (.lst (row.map .int)), .ow (.lst (acc.map .str)), .bo [] (.int sz), .ow (.lst (gs.map .int)), .no, .no]) (by simp) (by simp) (by omega) (fun g hg => ⟨_, .own, rfl, by
      have := lets_at g
      have l26 : (tx lets).length = 26 := by decide +kernel
      rw [← lets_tx] at this l26
      simp [e_l_names_5_ev, this, l26, tx], rfl⟩)
  have e3 := joinB_l (z := "") (ys := gs.map fun g => tx [ltn g]) (by
    have : ((gs.map fun g => tx [ltn g]).map (·.length)).sum = gs.length := by
      rw [List.map_map, show ((fun x : Str => x.length) ∘ fun g => tx [ltn g]) = fun _ : Int => 1 from funext fun g => tx_len [ltn g]]
      simp [List.map_const']
    rw [this]
    simp [show ("" : Str).length = 0 from rfl]; omega)
  have e4 : Txt.join "" (gs.map fun g => tx [ltn g]) = tx (gs.map ltn) := by
    have := join_ones' (gs.map ltn)
    simpa [List.map_map, Function.comp_def] using this
  simp only [List.map_map, Function.comp_def] at e1 e2 e3
  rw [e4] at e3
  refine ⟨tx (gs.map ltn), .bo [] (.int sz), .ow (.lst (gs.map .int)), ⟨goodN_tx (by simp; omega) (by simp; omega) (fun c hc => by
    obtain ⟨g, _, rfl⟩ := List.mem_map.mp hc; exact ltn_rng g), ?_⟩, ?_⟩
  · have : gs[p]? = some v := by rw [hgs, List.getElem?_set_self (by simpa using hs1)]
    rw [hp, ← hv]; simp [tx, this]
  · have ix : ixN sz (p : Int) = some p := by
      rw [ixN_nn (by omega) (by simpa using hs1)]; rfl
    have p12 : (p : Int) < 12 := by omega
    have st : ((List.range sz).map fun k => D.int (sg k)).set p (.int v) = gs.map .int := by
      rw [hgs, List.map_set, List.map_map]; rfl
    rw [hv] at st
    generalize gs.map D.int = GS at *
    generalize tx (gs.map ltn) = Y at *
    simp [b_l_names_3_ev, a0, a3, a4, hsz, e1, p12, mo5, ix, st, e2, e3, -List.getD_eq_getElem?_getD, -List.map_set, -atI_0, -atI_1, -atI_ofNat, show acc.length < 16777216 by omega]
    done
theorem names_loop (z : Int) (n : Nat) (hn : n ≤ 9) (row : List Int) (rl : row.length = 4 + n + 12 * n) (hr : ∀ x ∈ row, 0 ≤ x ∧ x < 26) (h0 : row.getD 0 0 < 12) : ∀ (m p : Nat) (acc : List Str) (s3 s6 s7 : Sl), p + m = n → acc.length = p → (∀ i y, acc[i]? = some y → NmAt (row.getD 0 0).toNat (row.getD 3 0) i y) →
    ∃ (acc' : List Str) (s3' s6' s7' : Sl), loopS (tgN 3) b_l_names_3 ((List.range' p m).map fun k : Nat => D.int k) [.bo [] (.int z), .bo [] (.int n), .bo [] (.str "abcdefghijklmnopqrstuvwxyz"), s3, .ow (.lst (row.map .int)), .ow (.lst (acc.map .str)), s6, s7, .no, .no] =
      .nx [.bo [] (.int z), .bo [] (.int n), .bo [] (.str "abcdefghijklmnopqrstuvwxyz"), s3', .ow (.lst (row.map .int)), .ow (.lst (acc'.map .str)), s6', s7', .no, .no] ∧ acc'.length = n ∧ ∀ i y, acc'[i]? = some y → NmAt (row.getD 0 0).toNat (row.getD 3 0) i y := by
  intro m
  induction m with
  | zero => intro p acc s3 s6 s7 hp ha hy; exact ⟨acc, s3, s6, s7, rfl, by omega, hy⟩
  | succ m ih =>
    intro p acc s3 s6 s7 hp ha hy
    obtain ⟨y, s6', s7', ny, e⟩ := names_step z n hn row rl hr h0 p (by omega) acc (by omega) s6 s7
    obtain ⟨acc', s3', s6'', s7'', e2, l2, h2⟩ := ih (p + 1) (acc ++ [y]) (.bo [] (.int p)) s6' s7' (by omega) (by simp; omega) (fun i w hw => by
      by_cases q : i < acc.length
      · rw [List.getElem?_append_left q] at hw; exact hy i w hw
      · have : i = acc.length := by
          have := (List.getElem?_eq_some_iff.mp hw).1
          simp at this; omega
        subst this
        simp at hw; subst hw; rw [ha]; exact ny)
    refine ⟨acc', s3', s6'', s7'', ?_, l2, h2⟩
    rw [← e2, List.range'_succ, List.map_cons, loopS_cons]
    simp [e]
theorem getD_app_lt {a b : List Int} {i : Nat} (h : i < a.length) : (a ++ b).getD i 0 = a.getD i 0 := by simp [List.getD, List.getElem?_append_left h]
theorem names_ok (z : Int) (n : Nat) (hn : n ≤ 9) : ∃ ys : List Str, f_l_names [.int z, .int n] = .ok (.own, .lst (ys.map .str)) ∧ ys.length = n ∧ (∀ y ∈ ys, goodN y = true) ∧ ys.Nodup := by
  obtain ⟨row, e, ir⟩ := draw_lit z (12 :: 2 :: 26 :: 26 :: (List.replicate n 12 ++ List.replicate (12 * n) 26)) (by simp) (by simp; omega)
  have rl : row.length = 4 + n + 12 * n := by rw [ir.len]; simp; omega
  have hr : ∀ x ∈ row, 0 ≤ x ∧ x < 26 := fun x hx => by
    obtain ⟨i, hi, rfl⟩ := List.getElem_of_mem hx
    have h1 : i < (12 :: 2 :: 26 :: 26 :: (List.replicate n (12 : Int) ++ List.replicate (12 * n) 26)).length := by rw [← ir.len]; exact hi
    obtain ⟨x, h2, h3, h4⟩ := ir.get (List.getElem?_eq_getElem h1)
    rw [List.getElem?_eq_getElem hi] at h2
    have h5 : (12 :: 2 :: 26 :: 26 :: (List.replicate n (12 : Int) ++ List.replicate (12 * n) 26))[i] ≤ 26 := by
      have := List.getElem_mem h1
      generalize (12 :: 2 :: 26 :: 26 :: (List.replicate n (12 : Int) ++ List.replicate (12 * n) 26))[i] = w at *
      simp at this
      omega
    cases h2
    exact ⟨h3, by omega⟩
  have h0 : row.getD 0 0 < 12 := by
    obtain ⟨x, h2, h3, h4⟩ := ir.get (i := 0) (l := 12) rfl
    simp [List.getD, h2, h4]
  obtain ⟨ys, s3', s6', s7', e2, l2, h2⟩ := names_loop z n hn row rl hr h0 n 0 [] .no .no .no (by omega) rfl (by simp)
  refine ⟨ys, ?_, l2, fun y hy => ?_, ?_⟩
  · have l1 := lcE_noL (it := rng1I (locE 1)) (own := [3]) (tg := tgN 3) (elt := e_l_names_1) (k := .own) (l := List.range n) (f := fun k : Nat => .int (k : Int)) (h := fun _ => .int 12)
      (ρ := [.bo [] (.int z), .bo [] (.int n), .bo [] (.str "abcdefghijklmnopqrstuvwxyz"), .no, .no, .no, .no, .no, .no, .no]) (by simp [rng, show rgOk (n : Int) = true from rgOk_of (by omega) (by omega)]) (by simp) (by simp; omega) (fun k hk => ⟨_, .own, rfl, by simp [e_l_names_1_ev], rfl⟩)
    have mo : mulOk 12 (n : Int) = true := mulOk_small (by omega) (by omega) (by omega) (by omega)
    have l3 := lcE_noL (it := rng1I (binE .Mult (conE (.int 12)) (locE 1))) (own := [3]) (tg := tgN 3) (elt := e_l_names_2) (k := .own) (l := List.range (12 * n)) (f := fun k : Nat => .int (k : Int)) (h := fun _ => .int 26)
      (ρ := [.bo [] (.int z), .bo [] (.int n), .bo [] (.str "abcdefghijklmnopqrstuvwxyz"), .no, .no, .no, .no, .no, .no, .no]) (by
        have : (12 * (n : Int)).toNat = 12 * n := by omega
        simp [rng, mo, this, show rgOk (12 * (n : Int)) = true from rgOk_of (by omega) (by omega)]) (by simp) (by simp; omega) (fun k hk => ⟨_, .own, rfl, by simp [e_l_names_2_ev], rfl⟩)
    have c1 : ∀ m : Nat, ∀ x : Int, ((List.range m).map fun _ => D.int x) = List.replicate m (.int x) := fun m x => by
      simp [List.map_const']
    rw [c1] at l1 l3
    rw [← List.range_eq_range'] at e2
    simp at e
    have rg1 : rgOk (n : Int) = true := rgOk_of (by omega) (by omega)
    simp [f_l_names, mkF_ev, b_l_names, l1, l3, e, rg1, rng, show 4 + n ≤ 16777216 by omega, show n + 1 + 1 + 1 + 1 + 12 * n ≤ 16777216 by omega]
    simp at e2
    rw [e2]
    simp
  · obtain ⟨i, hi, rfl⟩ := List.getElem_of_mem hy
    exact (h2 i _ (List.getElem?_eq_getElem hi)).1
  · refine List.pairwise_iff_getElem.mpr fun i j hi hj hij hh => ?_
    have q1 := h2 i _ (List.getElem?_eq_getElem hi)
    have q2 := h2 j _ (List.getElem?_eq_getElem hj)
    rw [hh] at q1
    have := q1.2.symm.trans q2.2
    simp [ltn] at this
    omega
end Cz
set_option maxHeartbeats 4000000
/-! Lc38: the law's woods. -/
namespace Cz
open PySem PySem.Spec PyProof.Rows L2
abbrev WD := Str × Int
def woodD (w : WD) : D := .tup [.str w.1, .int w.2]
@[simp] theorem noL_woodD (w : WD) : noL (woodD w) = true := rfl
structure WoodsOk (ws : List WD) (st : Str) : Prop where
  pos : 1 ≤ ws.length
  six : ws.length ≤ 6
  good : ∀ w ∈ ws, goodN w.1 = true
  rng : ∀ w ∈ ws, 0 ≤ w.2 ∧ w.2 < 100
  nd : (ws.map (·.1)).Nodup
  gst : goodN st = true
  ns : st ∉ ws.map (·.1)
theorem lwoods_ok (c : Int) (j : Nat) (hc : Cel j c) (hj : j ≤ 1000) : ∃ ws st, WoodsOk ws st ∧ f_l_woods [.int c] = .ok (.own, .tup [.lst (ws.map woodD), .str st]) := by
  obtain ⟨sp, e1, sl, sc⟩ := split_ok c j 2 0 hc (by omega) (by decide) (by decide)
  obtain ⟨x, y, rfl⟩ : ∃ x y, sp = [x, y] := by
    match sp, sl with
    | [x, y], _ => exact ⟨x, y, rfl⟩
  obtain ⟨row, e2, ir⟩ := draw_lit x [6, 3, 100, 100, 100, 100, 100, 100] (by decide) (by decide)
  obtain ⟨ys, e3, yl, yg, yn⟩ := names_ok y 7 (by decide)
  have rl : row.length = 8 := ir.len
  obtain ⟨r0, q0, p0, p1⟩ := ir.get (i := 0) (l := 6) rfl
  obtain ⟨r1, q1, p2, p3⟩ := ir.get (i := 1) (l := 3) rfl
  obtain ⟨n, rfl⟩ : ∃ n : Nat, r0 = (n : Int) := ⟨r0.toNat, by omega⟩
  obtain ⟨cap, hcap, c1, c2⟩ : ∃ cap : Int, atI [D.int 4, D.int 12, D.int 100] r1 = some (.int cap) ∧ 0 < cap ∧ cap ≤ 100 := by
    obtain h | h | h : r1 = 0 ∨ r1 = 1 ∨ r1 = 2 := by omega
    · exact ⟨4, by rw [h]; rfl, by omega, by omega⟩
    · exact ⟨12, by rw [h]; rfl, by omega, by omega⟩
    · exact ⟨100, by rw [h]; rfl, by omega, by omega⟩
  have ay : ∀ k : Nat, k < 7 → atI (ys.map D.str) (k : Int) = some (.str (ys.getD k "")) := fun k hk => by
    rw [atI_nn _ _ (by omega)]; simp [List.getD, show k < ys.length by omega]
  obtain ⟨ws, hws⟩ : ∃ ws : List WD, ws = (List.range (n + 1)).map fun k => (ys.getD k "", row.getD (2 + k) 0 % cap) := ⟨_, rfl⟩
  have wn : ws.map (·.1) = ys.take (n + 1) := by
    rw [hws]
    apply List.ext_getElem?
    intro i
    simp only [List.map_map, List.getElem?_map, Function.comp_def, List.getElem?_take]
    by_cases h : i < n + 1
    · simp [h, List.getD, show i < ys.length by omega]
    · simp [h]
  have l3 := lcE_noL (it := rng1I (binE .Add (idxE (locE 3) (conE (.int 0))) (conE (.int 1)))) (own := [6]) (tg := tgN 6) (elt := e_l_woods_2) (k := .own) (l := List.range (n + 1)) (f := fun k : Nat => .int (k : Int)) (h := fun k => woodD (ys.getD k "", row.getD (2 + k) 0 % cap))
    (ρ := [.bo [] (.int c), .bo [] (.int x), .bo [] (.int y), .ow (.lst (row.map .int)), .ow (.lst (ys.map .str)), .bo [] (.int cap), .no]) (by
      have t2 : ((n : Int) + 1).toNat = n + 1 := by omega
      simp [rng, q0, t2, show rgOk ((n : Int) + 1) = true from rgOk_of (by omega) (by omega)]) (by simp) (by simp; omega) (fun k hk => ⟨_, .own, rfl, by
      have hk' := List.mem_range.mp hk
      have g1 := ay k (by omega)
      have g2 : atI (row.map D.int) (2 + (k : Int)) = some (.int (row.getD (2 + k) 0)) := by
        have := atX (u := row) (k := 2 + k) (by omega); simpa using this
      generalize ys.getD k "" = a at *
      generalize row.getD (2 + k) 0 = b at *
      simp [e_l_woods_2_ev, g1, g2, c1, woodD], rfl⟩)
  have hw2 : ws.map woodD = (List.range (n + 1)).map fun k => woodD (ys.getD k "", row.getD (2 + k) 0 % cap) := by rw [hws, List.map_map]; rfl
  rw [← hw2] at l3
  have l1 := lcE_noL (it := rng1I (conE (.int 6))) (own := [6]) (tg := tgN 6) (elt := e_l_woods_1) (k := .own) (l := List.range 6) (f := fun k : Nat => .int (k : Int)) (h := fun _ => .int 100)
    (ρ := [.bo [] (.int c), .bo [] (.int x), .bo [] (.int y), .no, .no, .no, .no]) (by simp [rng, show rgOk 6 = true from rgOk_of (by omega) (by omega)]) (by simp) (by simp) (fun k hk => ⟨_, .own, rfl, by simp [e_l_woods_1_ev], rfl⟩)
  have l1' : (List.range 6).map (fun _ => D.int 100) = [.int 100, .int 100, .int 100, .int 100, .int 100, .int 100] := rfl
  rw [l1'] at l1
  have a6 : atI (ys.map D.str) 6 = some (.str (ys.getD 6 "")) := ay 6 (by decide)
  have a1 : atI (row.map D.int) 1 = some (.int r1) := by
    have := atX (u := row) (k := 1) (by omega)
    have h0 : row.getD 1 0 = r1 := by simp [List.getD, q1]
    rw [h0] at this; exact this
  refine ⟨ws, ys.getD 6 "", ⟨?_, ?_, ?_, ?_, ?_, ?_, ?_⟩, ?_⟩
  · rw [hws]; simp
  · rw [hws]; simp; omega
  · intro w hw
    exact yg _ (List.mem_of_mem_take (wn ▸ List.mem_map_of_mem hw))
  · intro w hw
    rw [hws] at hw
    obtain ⟨k, _, rfl⟩ := List.mem_map.mp hw
    have m1 := Int.emod_nonneg (row.getD (2 + k) 0) (show cap ≠ 0 by omega)
    have m2 := Int.emod_lt_of_pos (row.getD (2 + k) 0) c1
    exact ⟨m1, by show row.getD (2 + k) 0 % cap < 100; omega⟩
  · rw [wn]; exact yn.sublist (List.take_sublist _ _)
  · exact yg _ (by simp [List.getD, show 6 < ys.length by omega])
  · rw [wn]
    intro h
    obtain ⟨i, hi, e⟩ := List.getElem_of_mem h
    rw [List.getElem_take] at e
    simp at hi
    have := (List.pairwise_iff_getElem.mp yn) i 6 (by omega) (by omega) (by omega)
    apply this
    rw [e]
    simp [List.getD, show 6 < ys.length by omega]
  · have e1' : f_l_split [.int c, .int 2, .int 0] = .ok (.own, .lst [.int x, .int y]) := e1
    have e2' : f_l_draw [.int x, .lst [.int 6, .int 3, .int 100, .int 100, .int 100, .int 100, .int 100, .int 100]] = .ok (.own, .lst (row.map .int)) := e2
    have e3' : f_l_names [.int y, .int 7] = .ok (.own, .lst (ys.map .str)) := e3
    generalize ys.getD 6 "" = z at *
    simp [f_l_woods, mkF_ev, b_l_woods, e1', l1, e2', e3', a1, hcap, l3, a6, -atI_1, -atI_ofNat]
end Cz
set_option maxHeartbeats 4000000
/-! Lc39: trays. -/
namespace Cz
open PySem PySem.Spec PyProof.Rows L2
@[simp] theorem setP_fld {q : List Ix} {f : Str} {t : Nat} {C : String} {fs : List (Str × D)} {d' : D} : setP (.fld f :: q) (.obj t C fs) d' = (valD fs f).bind fun d => (setP q d d').map fun d' => .obj t C (putD fs f d') := by simp [setP]
def kv (ws : List WD) : List (Key × D) := ws.map fun w => (.inr w.1, .int w.2)
@[simp] theorem kv_len (ws : List WD) : (kv ws).length = ws.length := by simp [kv]
theorem kv_app (a b : List WD) : kv (a ++ b) = kv a ++ kv b := by simp [kv]
def trayD (ws : List WD) : D := .sob "Tray" [("stock", .fdc (kv ws))]
theorem itmD_kv (ws : List WD) : itmD (kv ws) = ws.map woodD := by simp [itmD, kv, woodD, kyD, Function.comp_def]
/-- how many packets of a wood -/
def pkO : List WD → Str → Option Int
  | [], _ => none
  | w :: r, n => if w.1 = n then some w.2 else pkO r n
theorem valD_kv (n : Str) : ∀ ws : List WD, valD (kv ws) (.inr n) = (pkO ws n).map D.int
  | [] => rfl
  | w :: r => by
    show valD ((Sum.inr w.1, D.int w.2) :: kv r) _ = _
    rw [valD_cons, valD_kv n r]
    by_cases h : w.1 = n
    · simp [pkO, h]
    · have : ¬ ((Sum.inr w.1 : Key) = Sum.inr n) := fun e => h (Sum.inr.inj e)
      simp [pkO, h, this]
theorem pkO_none {n : Str} : ∀ {ws : List WD}, pkO ws n = none ↔ n ∉ ws.map (·.1)
  | [] => by simp [pkO]
  | w :: r => by
    by_cases h : w.1 = n
    · simp [pkO, h]
    · simp only [pkO, h, if_false, pkO_none (ws := r), List.map_cons, List.mem_cons, not_or]
      exact ⟨fun q => ⟨fun e => h e.symm, q⟩, fun q => q.2⟩
theorem pkO_isSome {n : Str} {ws : List WD} : (pkO ws n).isSome = decide (n ∈ ws.map (·.1)) := by
  cases h : pkO ws n with
  | none => simp only [Option.isSome_none]; exact (decide_eq_false (pkO_none.mp h)).symm
  | some x =>
    simp only [Option.isSome_some]
    refine (decide_eq_true ?_).symm
    exact Classical.byContradiction fun z => by rw [pkO_none.mpr z] at h; cases h
def trGo : List WD → List WD → Bool
  | _, [] => true
  | seen, w :: r => goodN w.1 && (!decide (w.1 ∈ seen.map (·.1)) && (decide (0 ≤ w.2) && decide (w.2 ≤ 99))) && trGo (seen ++ [w]) r
def trayOk (ws : List WD) : Bool := decide (1 ≤ ws.length) && decide (ws.length ≤ 6) && trGo [] ws
theorem init_step (w : WD) (hw : w.1.length ≤ 16777216) (ws1 : List WD) (hl : ws1.length < 1000) (L : D) (t : Nat) :
    b_p_Tray___init___1 [.ow (.obj t "Tray" [("stock", .dic (kv ws1))]), .bo [] L, .bo [] (.str w.1), .bo [] (.int w.2)] =
      if (goodN w.1 && (!decide (w.1 ∈ ws1.map (·.1)) && (decide (0 ≤ w.2) && decide (w.2 ≤ 99)))) = true then .nx [.ow (.obj t "Tray" [("stock", .dic (kv (ws1 ++ [w])))]), .bo [] L, .bo [] (.str w.1), .bo [] (.int w.2)]
      else .ex "BadTray" [.ow (.obj t "Tray" [("stock", .dic (kv ws1))]), .bo [] L, .bo [] (.str w.1), .bo [] (.int w.2)] := by
  have g1 := good_name_ok w.1 hw
  have g2 := valD_kv w.1 ws1
  have g3 : (valD (kv ws1) (.inr w.1)).isSome = decide (w.1 ∈ ws1.map (·.1)) := by rw [g2, ← pkO_isSome]; cases pkO ws1 w.1 <;> rfl
  by_cases h1 : goodN w.1 = true
  · by_cases h2 : w.1 ∈ ws1.map (·.1)
    · rw [decide_eq_true h2] at g3
      simp only [h1, h2]
      simp [b_p_Tray___init___1_ev, g1, g3, h1]
    · have pn : putD (kv ws1) (.inr w.1) (.int w.2) = kv (ws1 ++ [w]) := by
        rw [putD_new, kv_app]; · rfl
        intro p hp e
        unfold kv at hp
        obtain ⟨v, hv, rfl⟩ := List.mem_map.mp hp
        exact h2 (List.mem_map.mpr ⟨v, hv, Sum.inr.inj e⟩)
      rw [decide_eq_false h2] at g3
      have ps : ∀ x : D, putD [(Str.ofString "stock", D.dic (kv ws1))] (Str.ofString "stock") x = [(Str.ofString "stock", x)] := fun x => by simp [putD]
      by_cases h3 : 0 ≤ w.2
      · by_cases h4 : w.2 ≤ 99
        · simp only [h1, h2, h3, h4]
          simp [b_p_Tray___init___1_ev, g1, g3, h1, h3, h4, pn, ps, show ws1.length < 16777216 by omega]
        · simp only [h1, h2, h3, h4]
          simp [b_p_Tray___init___1_ev, g1, g3, h1, h3, h4]
      · simp only [h1, h2, h3]
        simp [b_p_Tray___init___1_ev, g1, g3, h1, h3]
  · simp only [h1]
    simp [b_p_Tray___init___1_ev, g1, h1]
theorem init_loop (L : D) : ∀ (ws2 ws1 : List WD) (s2 s3 : Sl), (∀ w ∈ ws2, w.1.length ≤ 16777216) → ws1.length + ws2.length < 1000 → ∃ s2' s3' wz, ∀ t, loopS (tgT (tgCons (tgN 2) (tgCons (tgN 3) tgNil))) b_p_Tray___init___1 (ws2.map woodD) [.ow (.obj t "Tray" [("stock", .dic (kv ws1))]), .bo [] L, s2, s3] =
    if trGo ws1 ws2 = true then .nx [.ow (.obj t "Tray" [("stock", .dic (kv (ws1 ++ ws2)))]), .bo [] L, s2', s3'] else .ex "BadTray" [.ow (.obj t "Tray" [("stock", .dic (kv wz))]), .bo [] L, s2', s3'] := by
  intro ws2
  induction ws2 with
  | nil => intro ws1 s2 s3 _ _; exact ⟨s2, s3, [], fun t => by simp [trGo]⟩
  | cons w r ih =>
    intro ws1 s2 s3 hw hl
    simp only [List.length_cons] at hl
    obtain ⟨s2', s3', wz, e⟩ := ih (ws1 ++ [w]) (.bo [] (.str w.1)) (.bo [] (.int w.2)) (fun v hv => hw v (List.mem_cons_of_mem _ hv)) (by simp; omega)
    have st := fun t => init_step w (hw w List.mem_cons_self) ws1 (by omega) L t
    have tg : ∀ t, tgT (tgCons (tgN 2) (tgCons (tgN 3) tgNil)) (.bor []) (woodD w) [.ow (.obj t "Tray" [("stock", .dic (kv ws1))]), .bo [] L, s2, s3] = some [.ow (.obj t "Tray" [("stock", .dic (kv ws1))]), .bo [] L, .bo [] (.str w.1), .bo [] (.int w.2)] := fun t => by simp [woodD]
    cases h : (goodN w.1 && (!decide (w.1 ∈ ws1.map (·.1)) && (decide (0 ≤ w.2) && decide (w.2 ≤ 99)))) with
    | false =>
      refine ⟨.bo [] (.str w.1), .bo [] (.int w.2), ws1, fun t => ?_⟩
      rw [List.map_cons, loopS_cons, tg, trGo, h]
      simp only [st, h]
      simp
    | true =>
      refine ⟨s2', s3', wz, fun t => ?_⟩
      rw [List.map_cons, loopS_cons, tg, trGo, h]
      simp only [st, h]
      have := e t
      simp only [List.append_assoc, List.singleton_append] at this
      simp [this]
theorem init_ok (ws : List WD) (hw : ∀ w ∈ ws, w.1.length ≤ 16777216) (hl : ws.length < 1000) : ∃ fs', (allG fun t => f_p_Tray___init__ t [] [.lst (ws.map woodD)]) = if trayOk ws = true then .ok [("stock", .dic (kv ws))] .non else .ex "BadTray" fs' := by
  obtain ⟨s2', s3', wz, e⟩ := init_loop (.lst (ws.map woodD)) ws [] .no .no hw (by simpa using hl)
  by_cases h1 : 1 ≤ ws.length
  · have h1' : (1 : Int) ≤ ws.length := by omega
    by_cases h2 : ws.length ≤ 6
    · have h2' : ¬ (6 : Int) < ws.length := by omega
      cases h3 : trGo [] ws with
      | true =>
        refine ⟨[], allG_const fun t => ?_⟩
        have e' := e t
        rw [h3] at e'
        simp only [kv, List.map_nil, List.nil_append] at e'
        simp [f_p_Tray___init__, mkG_ev, runG_ev, b_p_Tray___init__, h1, h2, h1', h2', h3, trayOk, e', kv, show ws.length ≤ 16777216 by omega]
      | false =>
        refine ⟨[("stock", .dic (kv wz))], allG_const fun t => ?_⟩
        have e' := e t
        rw [h3] at e'
        simp only [kv, List.map_nil, List.nil_append] at e'
        simp [f_p_Tray___init__, mkG_ev, runG_ev, b_p_Tray___init__, h1, h2, h1', h2', h3, trayOk, e', kv, show ws.length ≤ 16777216 by omega]
    · have h2' : (6 : Int) < ws.length := by omega
      refine ⟨[], allG_const fun t => ?_⟩
      simp [f_p_Tray___init__, mkG_ev, runG_ev, b_p_Tray___init__, h1, h2, h1', h2', trayOk, show ws.length ≤ 16777216 by omega]
  · have h1' : ¬ (1 : Int) ≤ ws.length := by omega
    refine ⟨[], allG_const fun t => ?_⟩
    simp [f_p_Tray___init__, mkG_ev, runG_ev, b_p_Tray___init__, h1, h1', trayOk, show ws.length ≤ 16777216 by omega]
@[simp] theorem seal_tray (ws : List WD) : sealF [(Str.ofString "stock", .dic (kv ws))] = some [(Str.ofString "stock", .fdc (kv ws))] := by
  have : noLs ((kv ws).map (·.2)) = true := by
    unfold kv
    induction ws with
    | nil => rfl
    | cons w r ih => simpa using ih
  simp [sealF, sealV, this]
theorem make_tray (ws : List WD) (hw : ∀ w ∈ ws, w.1.length ≤ 16777216) (hl : ws.length < 1000) {r : SA} {ρ : Env} {k : Kd} (h : r ρ = .ok [(k, .lst (ws.map woodD))]) : mkzE "Tray" f_p_Tray___init__ r ρ = if trayOk ws = true then .ok (.own, trayD ws) else .ex "BadTray" := by
  obtain ⟨fs', e⟩ := init_ok ws hw hl
  rw [mkzE_ev, h]
  simp only [R.bind_ok, List.map_cons, List.map_nil, e]
  cases trayOk ws with
  | true => simp [trayD]
  | false => simp
theorem all_woods_ok (ws : List WD) : f_p_Tray_all_woods [trayD ws] = .ok (.own, .lst (ws.map woodD)) := by
  simp [f_p_Tray_all_woods, mkF_ev, b_p_Tray_all_woods, trayD, itmD_kv]
theorem packets_ok (ws : List WD) (n : Str) : f_p_Tray_packets [trayD ws, .str n] = match pkO ws n with | some x => .ok (.own, .int x) | none => .ex "NoWood" := by
  have g2 := valD_kv n ws
  cases h : pkO ws n with
  | none => rw [h] at g2; simp [f_p_Tray_packets, mkF_ev, b_p_Tray_packets, trayD, g2]
  | some x => rw [h] at g2; simp [f_p_Tray_packets, mkF_ev, b_p_Tray_packets, trayD, g2]
theorem intsD_kv (ws : List WD) : intsD ((kv ws).map (·.2)) = some (ws.map (·.2)) := by
  have : (kv ws).map (·.2) = (ws.map (·.2)).map D.int := by simp [kv]
  rw [this, intsD_mapI]
theorem total_ok (ws : List WD) : f_p_Tray_total [trayD ws] = .ok (.own, .int (ws.map (·.2)).sum) := by
  have := intsD_kv ws
  simp [f_p_Tray_total, mkF_ev, b_p_Tray_total, trayD, this]
theorem pair_of_wood_ok (w : WD) : f_l_pair_of_wood [woodD w] = .ok (.own, .bl true) := by
  simp [f_l_pair_of_wood, mkF_ev, b_l_pair_of_wood, woodD]
end Cz
set_option maxHeartbeats 4000000
/-! Lc40: trays that stand; one packet less. -/
namespace Cz
open PySem PySem.Spec PyProof.Rows L2
structure WOK (ws : List WD) : Prop where
  pos : 1 ≤ ws.length
  six : ws.length ≤ 6
  good : ∀ w ∈ ws, goodN w.1 = true
  rng : ∀ w ∈ ws, 0 ≤ w.2 ∧ w.2 ≤ 99
  nd : (ws.map (·.1)).Nodup
theorem WoodsOk.wok {ws : List WD} {st : Str} (h : WoodsOk ws st) : WOK ws := ⟨h.pos, h.six, h.good, fun w hw => by have := h.rng w hw; omega, h.nd⟩
theorem trGo_of : ∀ (ws seen : List WD), (∀ w ∈ ws, goodN w.1 = true ∧ 0 ≤ w.2 ∧ w.2 ≤ 99) → ((seen ++ ws).map (·.1)).Nodup → trGo seen ws = true
  | [], _, _, _ => rfl
  | w :: r, seen, h, n => by
    obtain ⟨h1, h2, h3⟩ := h w List.mem_cons_self
    have ih := trGo_of r (seen ++ [w]) (fun v hv => h v (List.mem_cons_of_mem _ hv)) (by simpa using n)
    have nm : w.1 ∉ seen.map (·.1) := fun z => by
      rw [List.map_append, List.nodup_append] at n
      exact n.2.2 _ z w.1 (by simp) rfl
    unfold trGo
    rw [ih, h1, decide_eq_false nm, decide_eq_true h2, decide_eq_true h3]
    rfl
theorem WOK.ok {ws : List WD} (h : WOK ws) : trayOk ws = true := by
  unfold trayOk
  rw [trGo_of ws [] (fun w hw => ⟨h.good w hw, h.rng w hw⟩) (by simpa using h.nd), decide_eq_true h.pos, decide_eq_true h.six]
  rfl
theorem WOK.len {ws : List WD} (h : WOK ws) : ∀ w ∈ ws, w.1.length ≤ 16777216 := fun w hw => by
  have := goodN_len (h.good w hw); omega
theorem pkO_mem : ∀ {ws : List WD}, (ws.map (·.1)).Nodup → ∀ w ∈ ws, pkO ws w.1 = some w.2
  | [], _, _, h => nomatch h
  | v :: r, n, w, h => by
    rw [List.map_cons, List.nodup_cons] at n
    rcases List.mem_cons.mp h with e | e
    · subst e; simp [pkO]
    · have : ¬ v.1 = w.1 := fun z => n.1 (z ▸ List.mem_map_of_mem e)
      simp [pkO, this, pkO_mem n.2 w e]
theorem pkO_some {n : Str} {x : Int} : ∀ {ws : List WD}, pkO ws n = some x → (n, x) ∈ ws
  | [], h => nomatch h
  | v :: r, h => by
    by_cases z : v.1 = n
    · simp [pkO, z] at h
      subst h; subst z; simp
    · simp [pkO, z] at h
      exact List.mem_cons_of_mem _ (pkO_some h)
theorem eqv_woodD (x y : WD) : eqv2 (woodD x) (woodD y) = decide (x = y) := by
  simp [woodD, Prod.ext_iff]
theorem cmD_woodD {w : WD} (h : goodN w.1 = true) : cmD 63 (woodD w) = true := by
  simp [woodD, goodN_ok h]
theorem eqD_woods (A B : List WD) (hA : ∀ w ∈ A, goodN w.1 = true) (hB : ∀ w ∈ B, goodN w.1 = true) : eqD (.lst (A.map woodD)) (.lst (B.map woodD)) = some (decide (A = B)) := by
  have c : ∀ L : List WD, (∀ w ∈ L, goodN w.1 = true) → cmD 64 (.lst (L.map woodD)) = true := fun L h => by
    rw [cmD_lst, cmDs_map]; exact List.all_eq_true.mpr fun w hw => cmD_woodD (h w hw)
  rw [eqD_of (c A hA) (c B hB), eqv2_lst, eqvs_map woodD eqv_woodD]
theorem trayNK (x : D) (m : String) (h : decide (("stock" : Str) ≠ Str.ofString m) = true) : noKey [("stock", x)] (Str.ofString m) = true := by
  show (decide (("stock" : Str) ≠ Str.ofString m) && true) = true
  rw [h]; rfl
theorem rm_tray {a : SE} {r : SA} {ρ : Env} {k : Kd} {ws : List WD} {m : String} {fn : Fn} {xs : List KD} (h : a ρ = .ok (k, trayD ws)) (hr : r ρ = .ok xs) (hm : decide (("stock" : Str) ≠ Str.ofString m) = true) :
    rmE "Tray" m fn a r ρ = (fn (trayD ws :: xs.map (·.2))).bind fun kd => .ok (retK kd.1 (jn ((k, trayD ws) :: xs)), kd.2) := by
  rw [rmE_ev, h, hr]
  simp only [R.bind_ok, trayD]
  rw [if_pos ⟨trivial, trayNK _ _ hm⟩]
  rfl
theorem rm_all {a : SE} {ρ : Env} {k : Kd} {ws : List WD} (h : a ρ = .ok (k, trayD ws)) : rmE "Tray" "all_woods" f_p_Tray_all_woods a nilA ρ = .ok (.own, .lst (ws.map woodD)) := by
  rw [rm_tray h (xs := []) rfl (by decide +kernel)]
  simp [all_woods_ok]
theorem rm_total {a : SE} {ρ : Env} {k : Kd} {ws : List WD} (h : a ρ = .ok (k, trayD ws)) : rmE "Tray" "total" f_p_Tray_total a nilA ρ = .ok (.own, .int (ws.map (·.2)).sum) := by
  rw [rm_tray h (xs := []) rfl (by decide +kernel)]
  simp [total_ok]
theorem rm_packets {a : SE} {r : SA} {ρ : Env} {k k2 : Kd} {ws : List WD} {n : Str} (h : a ρ = .ok (k, trayD ws)) (hr : r ρ = .ok [(k2, .str n)]) : rmE "Tray" "packets" f_p_Tray_packets a r ρ = match pkO ws n with | some x => .ok (.own, .int x) | none => .ex "NoWood" := by
  rw [rm_tray h hr (by decide +kernel)]
  simp only [List.map_cons, List.map_nil, packets_ok]
  cases pkO ws n <;> simp
theorem tray_stands_ok {ws : List WD} (h : WOK ws) : f_l_tray_stands [trayD ws, .lst (ws.map woodD)] = .ok (.own, .bl true) := by
  have l6 := h.six
  have e0 : ∀ (s1 s2 s3 s4 s5 : Sl), rmE "Tray" "all_woods" f_p_Tray_all_woods (locE 0) nilA [.bo [] (trayD ws), s1, s2, s3, s4, s5] = .ok (.own, .lst (ws.map woodD)) := fun _ _ _ _ _ => rm_all (k := .bor []) rfl
  have et : ∀ (s1 s2 s3 s4 s5 : Sl), rmE "Tray" "total" f_p_Tray_total (locE 0) nilA [.bo [] (trayD ws), s1, s2, s3, s4, s5] = .ok (.own, .int (ws.map (·.2)).sum) := fun _ _ _ _ _ => rm_total (k := .bor []) rfl
  have l1 := lcE_noL (it := seqI (locE 2)) (own := [3]) (tg := tgN 3) (elt := e_l_tray_stands_1) (k := .bor [2]) (l := ws) (f := woodD) (h := fun _ => .bl true)
    (ρ := [.bo [] (trayD ws), .bo [] (.lst (ws.map woodD)), .ow (.lst (ws.map woodD)), .no, .no, .no]) (by simp) (by simp) (by omega) (fun w hw => ⟨_, .own, rfl, by
      have := pair_of_wood_ok w
      simp [e_l_tray_stands_1_ev, woodD] at this ⊢
      simp [this], rfl⟩)
  have b1 : blsD (ws.map fun _ => D.bl true) = some (ws.map fun _ => true) := blsD_fn _ _
  have l2 := lcE_noL (it := seqI (locE 1)) (own := [4, 5]) (tg := tgT (tgCons (tgN 4) (tgCons (tgN 5) tgNil))) (elt := e_l_tray_stands_2) (k := .bor []) (l := ws) (f := woodD) (h := fun w => .int w.2)
    (ρ := [.bo [] (trayD ws), .bo [] (.lst (ws.map woodD)), .ow (.lst (ws.map woodD)), .no, .no, .no]) (by simp) (by simp) (by omega) (fun w hw => ⟨[.bo [] (trayD ws), .bo [] (.lst (ws.map woodD)), .ow (.lst (ws.map woodD)), .no, .bo [] (.str w.1), .bo [] (.int w.2)], .bor [], by simp [woodD], by simp [e_l_tray_stands_2_ev], rfl⟩)
  have b2 : intsD (ws.map fun w => D.int w.2) = some (ws.map (·.2)) := by
    have : (ws.map fun w => D.int w.2) = (ws.map (·.2)).map D.int := by simp
    rw [this, intsD_mapI]
  have l3 := lcE_noL (it := seqI (locE 1)) (own := [4, 5]) (tg := tgT (tgCons (tgN 4) (tgCons (tgN 5) tgNil))) (elt := e_l_tray_stands_3) (k := .bor []) (l := ws) (f := woodD) (h := fun w => .bl true)
    (ρ := [.bo [] (trayD ws), .bo [] (.lst (ws.map woodD)), .ow (.lst (ws.map woodD)), .no, .no, .no]) (by simp) (by simp) (by omega) (fun w hw => ⟨[.bo [] (trayD ws), .bo [] (.lst (ws.map woodD)), .ow (.lst (ws.map woodD)), .no, .bo [] (.str w.1), .bo [] (.int w.2)], .own, by simp [woodD], by
      have := rm_packets (a := locE 0) (r := consA (locE 4) nilA) (ρ := [.bo [] (trayD ws), .bo [] (.lst (ws.map woodD)), .ow (.lst (ws.map woodD)), .no, .bo [] (.str w.1), .bo [] (.int w.2)]) (k := .bor []) (k2 := .bor []) (ws := ws) (n := w.1) rfl (by simp)
      rw [pkO_mem h.nd w hw] at this
      generalize trayD ws = T at *
      simp [e_l_tray_stands_3_ev, this, -rmE_ev], rfl⟩)
  have eq := eqD_woods ws ws h.good h.good
  generalize trayD ws = T at *
  generalize ws.map woodD = L at *
  simp [f_l_tray_stands, mkF_ev, b_l_tray_stands, e0, et, l1, b1, l2, b2, l3, eq, -rmE_ev]
/-- one packet less -/
def lessW (ws : List WD) (n : Str) : List WD := ws.map fun w => (w.1, w.2 - if w.1 = n then 1 else 0)
@[simp] theorem lessW_len (ws : List WD) (n : Str) : (lessW ws n).length = ws.length := by simp [lessW]
theorem WOK.less {ws : List WD} (h : WOK ws) {n : Str} {x : Int} (hp : pkO ws n = some x) (hx : x ≠ 0) : WOK (lessW ws n) := by
  refine ⟨by simp [h.pos], by simp [h.six], fun w hw => ?_, fun w hw => ?_, ?_⟩
  · obtain ⟨v, hv, rfl⟩ := List.mem_map.mp hw; exact h.good v hv
  · obtain ⟨v, hv, rfl⟩ := List.mem_map.mp hw
    have r := h.rng v hv
    show 0 ≤ v.2 - _ ∧ v.2 - _ ≤ 99
    split
    · rename_i e
      have := pkO_mem h.nd v hv
      rw [e, hp] at this
      have := Option.some.inj this
      omega
    · omega
  · have : (lessW ws n).map (·.1) = ws.map (·.1) := by simp [lessW, Function.comp_def]
    rw [this]; exact h.nd
end Cz
set_option maxHeartbeats 4000000
/-! Lc42: texts cut and bent; when a tray is good. -/
namespace Cz
open PySem PySem.Spec PyProof.Rows L2
theorem strOk_iff {z : Str} : PyData.strOk z = true ↔ ∀ c ∈ z.cps.toList, c < 1114112 := by
  show z.cps.all _ = true ↔ _
  rw [← Array.all_toList, List.all_eq_true]
  exact ⟨fun h c hc => of_decide_eq_true (h c hc), fun h c hc => decide_eq_true (h c hc)⟩
theorem cutS_ok {z : Str} (h : PyData.strOk z = true) (lo hi : Option Int) : PyData.strOk (cutS z lo hi) = true := by
  rw [strOk_iff] at h ⊢
  intro c hc
  unfold cutS at hc
  simp only [List.toList_toArray] at hc
  exact h c (List.mem_of_mem_drop (List.mem_of_mem_take hc))
theorem cutS_len (z : Str) (lo hi : Option Int) : (cutS z lo hi).length ≤ z.length := by
  unfold cutS
  simp only [Str.length, List.size_toArray, List.length_take, List.length_drop, Array.length_toList]
  omega
theorem cutS_to (z : Str) (n : Nat) : (cutS z none (some (n : Int))).length ≤ n := by
  unfold cutS HT.sIx
  simp only [Str.length, List.size_toArray, List.length_take, List.length_drop, Array.length_toList]
  simp only [show ¬ ((n : Int) < 0) by omega, if_false]
  simp
  omega
theorem strMul_go (z : Str) : ∀ (k : Nat) (acc : Array Nat), (∀ c ∈ acc.toList, c < 1114112) → PyData.strOk z = true → ((∀ c ∈ ((List.replicate k z.cps).foldl (· ++ ·) acc).toList, c < 1114112) ∧ ((List.replicate k z.cps).foldl (· ++ ·) acc).size = acc.size + k * z.length)
  | 0, acc, h, _ => ⟨by simpa using h, by simp⟩
  | k + 1, acc, h, hz => by
    rw [List.replicate_succ, List.foldl_cons]
    have := strMul_go z k (acc ++ z.cps) (fun c hc => by
      rw [Array.toList_append, List.mem_append] at hc
      rcases hc with hc | hc
      · exact h c hc
      · exact strOk_iff.mp hz c hc) hz
    refine ⟨this.1, ?_⟩
    rw [this.2, Array.size_append, Nat.succ_mul]
    show acc.size + z.length + _ = _
    omega
theorem strMul_ok {z : Str} (h : PyData.strOk z = true) (k : Nat) : PyData.strOk (strMul z k) = true := strOk_iff.mpr (strMul_go z k #[] (fun c hc => nomatch hc) h).1
theorem strMul_len {z : Str} (h : PyData.strOk z = true) (k : Nat) : (strMul z k).length = k * z.length := by
  have := (strMul_go z k #[] (fun c hc => nomatch hc) h).2
  exact this.trans (Nat.zero_add _)
theorem odd_at (i : Nat) (h : i < 21) : ∃ c, ("ABZ0123456789 _-.\nzz'" : Str).cps.toList[i]? = some c ∧ c < 1114112 := by
  have : ∀ i < 21, ∃ c, ("ABZ0123456789 _-.\nzz'" : Str).cps.toList[i]? = some c ∧ c < 1114112 := by
    have q : ∀ i < 21, (match ("ABZ0123456789 _-.\nzz'" : Str).cps.toList[i]? with | some c => decide (c < 1114112) | none => false) = true := by decide +kernel
    intro i hi
    have := q i hi
    split at this
    · exact ⟨_, by assumption, of_decide_eq_true this⟩
    · cases this
  exact this i h
/-- a text of a wood -/
structure TxB (y : Str) : Prop where
  ok : PyData.strOk y = true
  len : y.length ≤ 1000
theorem app_len (a b : Str) : (a ++ b).length = a.length + b.length := by
  show (a.cps ++ b.cps).size = _
  rw [Array.size_append]; rfl
theorem one_len (c : Nat) : (⟨#[c]⟩ : Str).length = 1 := rfl
theorem one_ok {c : Nat} (h : c < 1114112) : PyData.strOk ⟨#[c]⟩ = true := strOk_iff.mpr fun d hd => by simp at hd; omega
theorem goodN_TxB {y : Str} (h : goodN y = true) : TxB y := ⟨goodN_ok h, by have := goodN_len h; omega⟩
/-! a good tray -/
theorem trGo_iff : ∀ (ws seen : List WD), (seen.map (·.1)).Nodup → (trGo seen ws = true ↔ ((seen ++ ws).map (·.1)).Nodup ∧ (∀ w ∈ ws, 0 ≤ w.2 ∧ w.2 ≤ 99) ∧ ∀ w ∈ ws, goodN w.1 = true)
  | [], seen, n => by simpa [trGo] using n
  | w :: r, seen, n => by
    unfold trGo
    by_cases hw : w.1 ∈ seen.map (·.1)
    · rw [decide_eq_true hw]
      simp only [Bool.not_true, Bool.false_and, Bool.and_false, Bool.false_eq_true, false_iff]
      intro z
      have z1 := z.1
      rw [List.map_append, List.nodup_append] at z1
      exact z1.2.2 _ hw w.1 (by simp) rfl
    · have n2 : ((seen ++ [w]).map (·.1)).Nodup := by
        rw [List.map_append, List.nodup_append]
        exact ⟨n, by simp, fun a ha b hb e => by simp at hb; subst hb; subst e; exact hw ha⟩
      have ih := trGo_iff r (seen ++ [w]) n2
      rw [decide_eq_false hw, Bool.and_eq_true, ih, List.append_assoc, List.singleton_append]
      simp only [Bool.not_false, Bool.true_and, Bool.and_eq_true, decide_eq_true_eq, List.mem_cons, forall_eq_or_imp]
      exact ⟨fun ⟨⟨a, b⟩, c, d, e⟩ => ⟨c, ⟨b, d⟩, a, e⟩, fun ⟨c, ⟨b, d⟩, a, e⟩ => ⟨⟨a, b⟩, c, d, e⟩⟩
theorem trayOk_iff (ws : List WD) : trayOk ws = true ↔ 1 ≤ ws.length ∧ ws.length ≤ 6 ∧ (ws.map (·.1)).Nodup ∧ (∀ w ∈ ws, 0 ≤ w.2 ∧ w.2 ≤ 99) ∧ ∀ w ∈ ws, goodN w.1 = true := by
  unfold trayOk
  rw [Bool.and_eq_true, Bool.and_eq_true, trGo_iff ws [] (by simp)]
  simp only [decide_eq_true_eq, List.nil_append, and_assoc]
theorem wok_of {ws : List WD} (h : trayOk ws = true) : WOK ws := by
  obtain ⟨a, b, c, d, e⟩ := (trayOk_iff ws).mp h
  exact ⟨a, b, e, d, c⟩
theorem eqD_woods' (A B : List WD) (hA : ∀ w ∈ A, PyData.strOk w.1 = true) (hB : ∀ w ∈ B, PyData.strOk w.1 = true) : eqD (.lst (A.map woodD)) (.lst (B.map woodD)) = some (decide (A = B)) := by
  have c : ∀ L : List WD, (∀ w ∈ L, PyData.strOk w.1 = true) → cmD 64 (.lst (L.map woodD)) = true := fun L h => by
    rw [cmD_lst, cmDs_map]; exact List.all_eq_true.mpr fun w hw => by simp [woodD, h w hw]
  rw [eqD_of (c A hA) (c B hB), eqv2_lst, eqvs_map woodD eqv_woodD]
theorem inD_strs {y : Str} {l : List Str} (hy : PyData.strOk y = true) (hl : ∀ x ∈ l, PyData.strOk x = true) : inD (.str y) (.lst (l.map .str)) = some (decide (y ∈ l)) := by
  rw [inD_lst (by simpa using hy) (by rw [cmDs_map]; exact List.all_eq_true.mpr fun w hw => by simpa using hl w hw), any_fn (f := D.str) (fun a b => by by_cases h : a = b <;> simp [h])]
theorem noLs_wD : ∀ ws : List WD, noLs (ws.map woodD) = true
  | [] => rfl
  | w :: r => by simpa using noLs_wD r
@[simp] theorem slB_str {k : Kd} {z : Str} {lo hi : Option Int} : slB (k, .str z) lo hi = if z.length ≤ LIM then some (.own, .str (cutS z lo hi)) else none := id rfl
theorem noLs_strs : ∀ l : List Str, noLs (l.map D.str) = true
  | [] => rfl
  | w :: r => by simpa using noLs_strs r
end Cz
set_option maxHeartbeats 2000000
/-! Lc44: fractions in lowest terms. -/
namespace Cz
open PySem PySem.Spec PyProof.Rows L2
theorem gcd_loop (x y : D) : ∀ (n a b : Nat), b ≤ n → a < 2 ^ 4000 → b < 2 ^ 4000 → whS t_l_gcd_1 b_l_gcd_1 [.bo [] (.int a), .bo [] (.int b)] = .nx [.bo [] (.int (Nat.gcd a b)), .bo [] (.int 0)] := by
  intro n
  induction n with
  | zero =>
    intro a b hb _ _
    have : b = 0 := by omega
    subst this
    rw [whS_step]; simp [t_l_gcd_1_ev]
  | succ n ih =>
    intro a b hb ha hb2
    rw [whS_step]
    by_cases h : b = 0
    · subst h; simp [t_l_gcd_1_ev]
    · have hp : 0 < b := by omega
      have hp' : (0 : Int) < b := by omega
      have hm : a % b < b := Nat.mod_lt _ hp
      have e := ih b (a % b) (by omega) hb2 (by omega)
      have g : Nat.gcd a b = Nat.gcd b (a % b) := by rw [Nat.gcd_comm a b, Nat.gcd_rec b a, Nat.gcd_comm]
      rw [g]
      have c : (a : Int) % (b : Int) = ((a % b : Nat) : Int) := by omega
      generalize Nat.gcd b (a % b) = G at *
      generalize a % b = m at *
      simp [t_l_gcd_1_ev, b_l_gcd_1_ev, h, hp, hp', c, e]
theorem gcd_ok (a b : Nat) (ha : a < 2 ^ 4000) (hb : b < 2 ^ 4000) : f_l_gcd [.int a, .int b] = .ok (.own, .int (Nat.gcd a b)) := by
  have e := gcd_loop .non .non b a b (Nat.le_refl _) ha hb
  generalize Nat.gcd a b = G at *
  simp [f_l_gcd, mkF_ev, b_l_gcd, e]
theorem lowest_loop (x y : D) : ∀ (n a b : Nat), b ≤ n → a < 2 ^ 4000 → b < 2 ^ 4000 → whS t_p_lowest_1 b_p_lowest_1 [.bo [] x, .bo [] y, .bo [] (.int a), .bo [] (.int b)] = .nx [.bo [] x, .bo [] y, .bo [] (.int (Nat.gcd a b)), .bo [] (.int 0)] := by
  intro n
  induction n with
  | zero =>
    intro a b hb _ _
    have : b = 0 := by omega
    subst this
    rw [whS_step]; simp [t_p_lowest_1_ev]
  | succ n ih =>
    intro a b hb ha hb2
    rw [whS_step]
    by_cases h : b = 0
    · subst h; simp [t_p_lowest_1_ev]
    · have hp : 0 < b := by omega
      have hp' : (0 : Int) < b := by omega
      have hm : a % b < b := Nat.mod_lt _ hp
      have e := ih b (a % b) (by omega) hb2 (by omega)
      have g : Nat.gcd a b = Nat.gcd b (a % b) := by rw [Nat.gcd_comm a b, Nat.gcd_rec b a, Nat.gcd_comm]
      rw [g]
      have c : (a : Int) - (a : Int) / (b : Int) * (b : Int) = ((a % b : Nat) : Int) := by
        have := Int.emod_add_mul_ediv (a : Int) (b : Int)
        have c2 : (a : Int) % (b : Int) = ((a % b : Nat) : Int) := by omega
        rw [Int.mul_comm] at this
        omega
      have dv : divOk (b : Int) = true := divOk_of (b := 4000) hp' (by simpa using hb2) (by decide) (by decide)
      have ml : mulOk ((a : Int) / (b : Int)) (b : Int) = true := by
        have q : (a : Int) / (b : Int) = ((a / b : Nat) : Int) := by omega
        have ql : a / b ≤ a := Nat.div_le_self _ _
        rw [q]
        exact mulOk_of (a := 4000) (b := 4000) (by simp only [Int.natAbs_natCast]; omega) (by simpa using hb2) (by decide) (by decide) (by decide)
      generalize Nat.gcd b (a % b) = G at *
      generalize a % b = m at *
      simp [t_p_lowest_1_ev, b_p_lowest_1_ev, h, hp, hp', dv, ml, c, e]
theorem lowest_ok (a b : Nat) (ha : a < 2 ^ 4000) (hb : b < 2 ^ 4000) (hp : 0 < b) : f_p_lowest [.int a, .int b] = .ok (.own, .tup [.int ((a / Nat.gcd a b : Nat) : Int), .int ((b / Nat.gcd a b : Nat) : Int)]) := by
  have e := lowest_loop (.int a) (.int b) b a b (Nat.le_refl _) ha hb
  have gp : 0 < Nat.gcd a b := Nat.gcd_pos_of_pos_right _ hp
  have gl : Nat.gcd a b ≤ b := Nat.le_of_dvd hp (Nat.gcd_dvd_right a b)
  have c1 : (a : Int) / ((Nat.gcd a b : Nat) : Int) = ((a / Nat.gcd a b : Nat) : Int) := by generalize Nat.gcd a b = G at *; omega
  have c2 : (b : Int) / ((Nat.gcd a b : Nat) : Int) = ((b / Nat.gcd a b : Nat) : Int) := by generalize Nat.gcd a b = G at *; omega
  have dv : divOk ((Nat.gcd a b : Nat) : Int) = true := divOk_of (b := 4000) (by omega) (by simp only [Int.natAbs_natCast]; omega) (by decide) (by decide)
  generalize Nat.gcd a b = G at *
  generalize a / G = u at *
  generalize b / G = v at *
  simp [f_p_lowest, mkF_ev, b_p_lowest, e, dv, c1, c2]
theorem fractions_one (p q : Nat) (hp : p < 2 ^ 4000) (hq : q < 2 ^ 4000) (h1 : 1 ≤ q) (hg : Nat.gcd p q = 1) : f_l_fractions [.lst [.tup [.int p, .int q]]] = .ok (.own, .bl true) := by
  have g := gcd_ok p q hp hq
  rw [hg] at g
  have h1' : ¬ (q : Int) < 1 := by omega
  have p0 : ¬ (p : Int) < 0 := by omega
  simp at g
  simp [f_l_fractions, mkF_ev, b_l_fractions, loopS_cons, b_l_fractions_1_ev, g, h1', p0]
  try omega
/-- the fraction told answers to over by under -/
theorem fraction_ok (a b x y : Nat) (ha : a < 2 ^ 4000) (hb : b < 2 ^ 4000) (hp : 0 < b) (hx : x < 2 ^ 4000) (hy : y < 2 ^ 4000) (h : a * y = x * b) :
    f_l_fraction [.tup [.int ((a / Nat.gcd a b : Nat) : Int), .int ((b / Nat.gcd a b : Nat) : Int)], .int x, .int y] = .ok (.own, .bl true) := by
  have gp : 0 < Nat.gcd a b := Nat.gcd_pos_of_pos_right _ hp
  have gc : Nat.gcd (a / Nat.gcd a b) (b / Nat.gcd a b) = 1 := Nat.coprime_div_gcd_div_gcd gp
  have d1 : a / Nat.gcd a b * Nat.gcd a b = a := Nat.div_mul_cancel (Nat.gcd_dvd_left a b)
  have d2 : b / Nat.gcd a b * Nat.gcd a b = b := Nat.div_mul_cancel (Nat.gcd_dvd_right a b)
  have l1 : a / Nat.gcd a b ≤ a := Nat.div_le_self _ _
  have l2 : b / Nat.gcd a b ≤ b := Nat.div_le_self _ _
  generalize Nat.gcd a b = G at *
  generalize a / G = u at *
  generalize b / G = v at *
  have v1 : 1 ≤ v := Nat.pos_of_ne_zero fun z => by subst z; omega
  have key : u * y = x * v := by
    have : (u * y) * G = (x * v) * G := by
      calc (u * y) * G = (u * G) * y := by rw [Nat.mul_right_comm]
        _ = a * y := by rw [d1]
        _ = x * b := h
        _ = x * (v * G) := by rw [d2]
        _ = (x * v) * G := by rw [Nat.mul_assoc]
    exact Nat.eq_of_mul_eq_mul_right gp this
  have f := fractions_one u v (by omega) (by omega) v1 gc
  have m1 : mulOk (u : Int) (y : Int) = true := mulOk_of (a := 4000) (b := 4000) (by simp only [Int.natAbs_natCast]; omega) (by simp only [Int.natAbs_natCast]; omega) (by decide) (by decide) (by decide)
  have m2 : mulOk (x : Int) (v : Int) = true := mulOk_of (a := 4000) (b := 4000) (by simp only [Int.natAbs_natCast]; omega) (by simp only [Int.natAbs_natCast]; omega) (by decide) (by decide) (by decide)
  have key' : (u : Int) * (y : Int) = (x : Int) * (v : Int) := by exact_mod_cast key
  simp [f_l_fraction, mkF_ev, b_l_fraction, f, m1, m2, key']
/-! falling -/
def fal (m : Nat) : Nat → Nat
  | 0 => 1
  | n + 1 => fal m n * (m - n)
theorem fal_lt (m : Nat) (hm : m < 2 ^ 20) : ∀ n, fal m n < 2 ^ (20 * n + 1)
  | 0 => by show 1 < 2 ^ 1; decide
  | n + 1 => by
    have ih := fal_lt m hm n
    show fal m n * (m - n) < _
    have h1 : m - n < 2 ^ 20 := by omega
    have : fal m n * (m - n) < 2 ^ (20 * n + 1) * 2 ^ 20 := Nat.mul_lt_mul'' ih h1
    rw [← Nat.pow_add] at this
    rw [show 20 * (n + 1) + 1 = 20 * n + 1 + 20 by omega]
    exact this
theorem fal_pos {m : Nat} : ∀ {n}, n ≤ m → 0 < fal m n
  | 0, _ => Nat.one_pos
  | n + 1, h => Nat.mul_pos (fal_pos (by omega)) (by omega)
theorem fal_big (m : Nat) (hm : m < 2 ^ 20) (n : Nat) (hn : n ≤ 100) : fal m n < 2 ^ 2001 := Nat.lt_of_lt_of_le (fal_lt m hm n) (Nat.pow_le_pow_right (by decide) (by omega))
theorem mx_nat (m n : Nat) : max 0 ((m : Int) - (n : Int)) = ((m - n : Nat) : Int) := by omega
theorem fal_mul (m : Nat) (hm : m < 2 ^ 20) (n : Nat) (hn : n ≤ 100) : mulOk ((fal m n : Nat) : Int) ((m - n : Nat) : Int) = true :=
  mulOk_of (a := 2001) (b := 20) (by simp only [Int.natAbs_natCast]; exact fal_big m hm n hn) (by simp only [Int.natAbs_natCast]; omega) (by decide) (by decide) (by decide)
theorem falling_loop (m : Nat) (hm : m < 2 ^ 20) (x : D) : ∀ (n k : Nat) (s : Sl), k + n ≤ 100 → ∃ s', loopS (tgN 3) b_p_falling_1 ((List.range' k n).map fun i : Nat => D.int i) [.bo [] (.int m), .bo [] x, .bo [] (.int (fal m k)), s] = .nx [.bo [] (.int m), .bo [] x, .bo [] (.int (fal m (k + n))), s']
  | 0, k, s, _ => ⟨s, rfl⟩
  | n + 1, k, s, h => by
    obtain ⟨s', e⟩ := falling_loop m hm x n (k + 1) (.bo [] (.int k)) (by omega)
    refine ⟨s', ?_⟩
    have ml := fal_mul m hm k (by omega)
    have fe : ((fal m k : Nat) : Int) * ((m - k : Nat) : Int) = ((fal m (k + 1) : Nat) : Int) := by
      show _ = ((fal m k * (m - k) : Nat) : Int)
      rw [Int.natCast_mul]
    rw [List.range'_succ, List.map_cons, loopS_cons]
    rw [show k + (n + 1) = k + 1 + n by omega, ← e]
    have mx := mx_nat m k
    generalize ((m - k : Nat) : Int) = mk at *
    generalize fal m k = F0 at *
    generalize fal m (k + 1) = F1 at *
    simp [b_p_falling_1_ev, mx, ml, fe]
theorem falling_ok (m : Nat) (hm : m < 2 ^ 20) (n : Nat) (hn : n ≤ 100) : f_p_falling [.int m, .int n] = .ok (.own, .int (fal m n)) := by
  obtain ⟨s', e⟩ := falling_loop m hm (.int n) n 0 .no (by omega)
  have rg : rgOk (n : Int) = true := rgOk_of (by omega) (by omega)
  have f0 : fal m 0 = 1 := rfl
  rw [f0, Nat.zero_add] at e
  rw [← List.range_eq_range'] at e
  generalize fal m n = F at *
  simp [f_p_falling, mkF_ev, b_p_falling, rg, rng]
  simp at e
  rw [e]; simp
theorem down_loop (m : Nat) (hm : m < 2 ^ 20) (x : D) : ∀ (n k : Nat) (s : Sl), k + n ≤ 100 → ∃ s', loopS (tgN 3) b_l_down_1 ((List.range' k n).map fun i : Nat => D.int i) [.bo [] (.int m), .bo [] x, .bo [] (.int (fal m k)), s] = .nx [.bo [] (.int m), .bo [] x, .bo [] (.int (fal m (k + n))), s']
  | 0, k, s, _ => ⟨s, rfl⟩
  | n + 1, k, s, h => by
    obtain ⟨s', e⟩ := down_loop m hm x n (k + 1) (.bo [] (.int k)) (by omega)
    refine ⟨s', ?_⟩
    have ml := fal_mul m hm k (by omega)
    have fe : ((fal m k : Nat) : Int) * ((m - k : Nat) : Int) = ((fal m (k + 1) : Nat) : Int) := by
      show _ = ((fal m k * (m - k) : Nat) : Int)
      rw [Int.natCast_mul]
    rw [List.range'_succ, List.map_cons, loopS_cons]
    rw [show k + (n + 1) = k + 1 + n by omega, ← e]
    have mx := mx_nat m k
    generalize ((m - k : Nat) : Int) = mk at *
    generalize fal m k = F0 at *
    generalize fal m (k + 1) = F1 at *
    simp [b_l_down_1_ev, mx, ml, fe]
theorem down_ok (m : Nat) (hm : m < 2 ^ 20) (n : Nat) (hn : n ≤ 100) : f_l_down [.int m, .int n] = .ok (.own, .int (fal m n)) := by
  obtain ⟨s', e⟩ := down_loop m hm (.int n) n 0 .no (by omega)
  have rg : rgOk (n : Int) = true := rgOk_of (by omega) (by omega)
  have f0 : fal m 0 = 1 := rfl
  rw [f0, Nat.zero_add] at e
  rw [← List.range_eq_range'] at e
  generalize fal m n = F at *
  simp [f_l_down, mkF_ev, b_l_down, rg, rng]
  simp at e
  rw [e]; simp
/-! totals -/
theorem l_total_ok (ws : List WD) (hl : ws.length ≤ 1000) : f_l_total [.lst (ws.map woodD)] = .ok (.own, .int (ws.map (·.2)).sum) := by
  have f2 := lcE_noL (it := seqI (locE 0)) (own := [1, 2]) (tg := tgT (tgCons (tgN 1) (tgCons (tgN 2) tgNil))) (elt := e_l_total_1) (k := .bor []) (l := ws) (f := woodD) (h := fun w => .int w.2)
    (ρ := [.bo [] (.lst (ws.map woodD)), .no, .no]) (by simp) (by simp) (by omega) (fun w hw => ⟨[.bo [] (.lst (ws.map woodD)), .bo [] (.str w.1), .bo [] (.int w.2)], .bor [], by simp [woodD], by simp [e_l_total_1_ev], rfl⟩)
  have b2 : intsD (ws.map fun w => D.int w.2) = some (ws.map (·.2)) := by
    have : (ws.map fun w => D.int w.2) = (ws.map (·.2)).map D.int := by simp
    rw [this, intsD_mapI]
  generalize ws.map woodD = L at *
  simp [f_l_total, mkF_ev, b_l_total, f2, b2]
/-- packets altogether -/
def totN (ws : List WD) : Nat := (ws.map fun w : WD => w.2).sum.toNat
theorem totN_eq {ws : List WD} (h : ∀ w ∈ ws, 0 ≤ w.2) : (ws.map (·.2)).sum = (totN ws : Int) := by
  have : 0 ≤ (ws.map (·.2)).sum := by
    induction ws with
    | nil => simp
    | cons w r ih =>
      have := h w List.mem_cons_self
      have := ih fun v hv => h v (List.mem_cons_of_mem _ hv)
      simp; omega
  unfold totN; omega
theorem tot_lt {ws : List WD} (h : WOK ws) : totN ws ≤ 600 := by
  have key : ∀ l : List WD, (∀ w ∈ l, w.2 ≤ 99) → (l.map (·.2)).sum ≤ 99 * (l.length : Int) := by
    intro l
    induction l with
    | nil => intro _; simp
    | cons w r ih =>
      intro q
      have := q w List.mem_cons_self
      have := ih fun v hv => q v (List.mem_cons_of_mem _ hv)
      simp; omega
  have := key ws fun w hw => (h.rng w hw).2
  have := h.six
  unfold totN; omega
theorem look_room_ok {ws : List WD} (h : WOK ws) (n : Int) : f_p_look_room [trayD ws, .int n] = if (totN ws : Int) < n then .ex "TooFew" else .ok (.own, .non) := by
  have t := rm_total (a := locE 0) (ρ := [.bo [] (trayD ws), .bo [] (.int n)]) (k := .bor []) (ws := ws) rfl
  rw [totN_eq fun w hw => (h.rng w hw).1] at t
  by_cases q : (totN ws : Int) < n <;> simp [f_p_look_room, mkF_ev, b_p_look_room, t, q, -rmE_ev]
end Cz
set_option maxHeartbeats 4000000
/-! Lc45: chances of rows. -/
namespace Cz
open PySem PySem.Spec PyProof.Rows L2
theorem valD_mapne {κ : Type} [DecidableEq κ] {k q : κ} {v : D} (h : k ≠ q) : ∀ r : List (κ × D), valD (r.map fun kv => if kv.1 = k then (kv.1, v) else kv) q = valD r q
  | [] => rfl
  | (x, d) :: r => by
    rw [List.map_cons, valD_cons (x := x)]
    by_cases e : x = k
    · subst e; simp [h, valD_mapne h r]
    · simp only [e, if_false, valD_cons, valD_mapne h r]
theorem valD_mapeq {κ : Type} [DecidableEq κ] {k : κ} {v : D} : ∀ r : List (κ × D), (r.any fun kv => decide (kv.1 = k)) = true → valD (r.map fun kv => if kv.1 = k then (kv.1, v) else kv) k = some v
  | [], h => by simp at h
  | (x, d) :: r, h => by
    rw [List.map_cons]
    by_cases e : x = k
    · subst e; simp
    · have h' : (r.any fun kv => decide (kv.1 = k)) = true := by simpa [e] using h
      simp only [e, if_false, valD_cons]
      exact valD_mapeq r h'
theorem valD_appk {κ : Type} [DecidableEq κ] {k q : κ} {v : D} : ∀ r : List (κ × D), valD (r ++ [(k, v)]) q = (valD r q).or (if k = q then some v else none)
  | [] => by simp
  | (x, d) :: r => by
    rw [List.cons_append, valD_cons, valD_cons, valD_appk r]
    by_cases e : x = q <;> simp [e]
theorem valD_put {κ : Type} [DecidableEq κ] (r : List (κ × D)) (k q : κ) (v : D) : valD (putD r k v) q = if k = q then some v else valD r q := by
  unfold putD
  split
  · rename_i h
    by_cases e : k = q
    · subst e; rw [valD_mapeq r h]; simp
    · rw [valD_mapne e r]; simp [e]
  · rename_i h
    rw [valD_appk]
    by_cases e : k = q
    · subst e
      have : valD r k = none := by
        cases hv : valD r k with
        | none => rfl
        | some d =>
          exfalso
          apply h
          clear h
          induction r with
          | nil => simp at hv
          | cons p r ih =>
            obtain ⟨x, d'⟩ := p
            rw [valD_cons] at hv
            by_cases e : x = k
            · simp [e]
            · simp only [e, if_false] at hv
              simp [ih hv]
      simp [this]
    · cases valD r q <;> simp [e]
theorem putD_len {κ : Type} [DecidableEq κ] (r : List (κ × D)) (k : κ) (v : D) : (putD r k v).length ≤ r.length + 1 := by
  unfold putD; split <;> simp
/-- packets of a wood, none is nought -/
def pkN (ws : List WD) (n : Str) : Nat := ((pkO ws n).getD 0).toNat
theorem pkO_pkN {ws : List WD} (h : WOK ws) {n : Str} {x : Int} (e : pkO ws n = some x) : x = (pkN ws n : Int) := by
  have := pkO_some e
  have := (h.rng _ this).1
  unfold pkN; rw [e]; simp; omega
theorem pkN_lt {ws : List WD} (h : WOK ws) (n : Str) : pkN ws n ≤ 99 := by
  unfold pkN
  cases e : pkO ws n with
  | none => simp
  | some x =>
    have := pkO_some e
    have := (h.rng _ this).2
    simp; omega
def rowG (ws : List WD) (nm : List Str) : Nat → Nat
  | 0 => 1
  | k + 1 => rowG ws nm k * (pkN ws (nm.getD k "") - (nm.take k).count (nm.getD k ""))
theorem rowG_lt {ws : List WD} (h : WOK ws) (nm : List Str) : ∀ k, rowG ws nm k < 2 ^ (20 * k + 1)
  | 0 => by show 1 < 2 ^ 1; decide
  | k + 1 => by
    have ih := rowG_lt h nm k
    show rowG ws nm k * _ < _
    have h1 : pkN ws (nm.getD k "") - (nm.take k).count (nm.getD k "") < 2 ^ 20 := by have := pkN_lt h (nm.getD k ""); omega
    have := Nat.mul_lt_mul'' ih h1
    rw [← Nat.pow_add] at this
    rw [show 20 * (k + 1) + 1 = 20 * k + 1 + 20 by omega]
    exact this
theorem rowG_big {ws : List WD} (h : WOK ws) (nm : List Str) (k : Nat) (hk : k ≤ 100) : rowG ws nm k < 2 ^ 2001 := Nat.lt_of_lt_of_le (rowG_lt h nm k) (Nat.pow_le_pow_right (by decide) (by omega))
theorem row_loop1 {ws : List WD} (hw : WOK ws) (N : D) : ∀ (rest pre : List Str) (kvs : List (Key × D)) (s : Sl), pre.length + rest.length < 1000 → kvs.length ≤ pre.length → (∀ n ∈ pre, valD kvs (.inr n) = some (.int (pkN ws n))) →
    ∃ kvs' s', (loopS (tgN 3) b_p_row_chance_1 (rest.map D.str) [.bo [] (trayD ws), .bo [] N, .ow (.dic kvs), s, .no] = if (∀ n ∈ rest, pkO ws n ≠ none) then .nx [.bo [] (trayD ws), .bo [] N, .ow (.dic kvs'), s', .no] else .ex "NoWood" [.bo [] (trayD ws), .bo [] N, .ow (.dic kvs'), s', .no]) ∧
      ((∀ n ∈ rest, pkO ws n ≠ none) → (∀ n ∈ pre ++ rest, valD kvs' (.inr n) = some (.int (pkN ws n))) ∧ kvs'.length ≤ 1000)
  | [], pre, kvs, s, hl, hk, hv => ⟨kvs, s, by simp, fun _ => ⟨by simpa using hv, by omega⟩⟩
  | n :: rest, pre, kvs, s, hl, hk, hv => by
    simp only [List.length_cons] at hl
    have pk := rm_packets (a := locE 0) (r := consA (locE 3) nilA) (ρ := [.bo [] (trayD ws), .bo [] N, .ow (.dic kvs), .bo [] (.str n), .no]) (k := .bor []) (k2 := .bor []) (ws := ws) (n := n) rfl (by simp)
    rw [List.map_cons, loopS_cons]
    cases hp : pkO ws n with
    | none =>
      rw [hp] at pk
      refine ⟨kvs, .bo [] (.str n), ?_, fun z => absurd hp (z n List.mem_cons_self)⟩
      rw [if_neg (fun z => z n List.mem_cons_self hp)]
      generalize trayD ws = T at *
      simp [b_p_row_chance_1_ev, pk, -rmE_ev]
    | some x =>
      rw [hp] at pk
      have hx := pkO_pkN hw hp
      rw [hx] at pk
      obtain ⟨kvs', s', e, h2⟩ := row_loop1 hw N rest (pre ++ [n]) (putD kvs (.inr n) (.int (pkN ws n))) (.bo [] (.str n)) (by simp; omega) (by have := putD_len kvs (.inr n) (.int (pkN ws n)); simp; omega) (fun m hm => by
        rw [valD_put]
        by_cases q : (Sum.inr n : Key) = Sum.inr m
        · rw [if_pos q]; rw [Sum.inr.inj q]
        · rw [if_neg q]
          rcases List.mem_append.mp hm with h | h
          · exact hv m h
          · simp at h; subst h; exact absurd rfl q)
      refine ⟨kvs', s', ?_, fun z => ?_⟩
      · have c : (∀ m ∈ n :: rest, pkO ws m ≠ none) ↔ ∀ m ∈ rest, pkO ws m ≠ none := by
          simp only [List.forall_mem_cons, hp]; simp
        simp only [c]
        rw [← e]
        generalize trayD ws = T at *
        generalize pkN ws n = pn at *
        simp [b_p_row_chance_1_ev, pk, -rmE_ev, show kvs.length < 16777216 by omega]
      · have := h2 fun m hm => z m (List.mem_cons_of_mem _ hm)
        exact ⟨fun m hm => this.1 m (by simpa using hm), this.2⟩
theorem row_loop2 {ws : List WD} (hw : WOK ws) (T N : D) (nm : List Str) (hn : nm.length ≤ 100) : ∀ (rest pre : List Str) (kvs : List (Key × D)) (s : Sl), nm = pre ++ rest → kvs.length ≤ 1000 + pre.length → (∀ n ∈ nm, valD kvs (.inr n) = some (.int ((pkN ws n - pre.count n : Nat) : Int))) →
    ∃ kvs' s', loopS (tgN 3) b_p_row_chance_2 (rest.map D.str) [.bo [] T, .bo [] N, .ow (.dic kvs), s, .bo [] (.int (rowG ws nm pre.length))] = .nx [.bo [] T, .bo [] N, .ow (.dic kvs'), s', .bo [] (.int (rowG ws nm nm.length))]
  | [], pre, kvs, s, hl, hk, hv => ⟨kvs, s, by subst hl; simp⟩
  | n :: rest, pre, kvs, s, hl, hk, hv => by
    have ll : nm.length = pre.length + rest.length + 1 := by rw [hl]; simp; omega
    have g : nm.getD pre.length "" = n := by rw [hl]; simp [List.getD]
    have tk : nm.take pre.length = pre := by rw [hl]; simp
    have v0 := hv n (by rw [hl]; simp)
    have st : rowG ws nm (pre.length + 1) = rowG ws nm pre.length * (pkN ws n - pre.count n) := by
      show rowG ws nm pre.length * _ = _
      rw [g, tk]
    obtain ⟨kvs', s', e⟩ := row_loop2 hw T N nm hn rest (pre ++ [n]) (putD kvs (.inr n) (.int ((pkN ws n - (pre ++ [n]).count n : Nat) : Int))) (.bo [] (.str n)) (by rw [hl]; simp) (by have := putD_len kvs (.inr n) (.int ((pkN ws n - (pre ++ [n]).count n : Nat) : Int)); rw [List.length_append, List.length_singleton]; omega) (fun m hm => by
      rw [valD_put]
      by_cases q : (Sum.inr n : Key) = Sum.inr m
      · rw [if_pos q, Sum.inr.inj q]
      · rw [if_neg q, hv m hm]
        have : ¬ n = m := fun z => q (by rw [z])
        rw [List.count_append, List.count_cons_of_ne this]; simp)
    refine ⟨kvs', s', ?_⟩
    rw [← e, List.map_cons, loopS_cons]
    rw [List.length_append, List.length_singleton]
    have ml : mulOk ((rowG ws nm pre.length : Nat) : Int) ((pkN ws n - pre.count n : Nat) : Int) = true :=
      mulOk_of (a := 2001) (b := 20) (by simp only [Int.natAbs_natCast]; exact rowG_big hw nm _ (by omega)) (by simp only [Int.natAbs_natCast]; have := pkN_lt hw n; omega) (by decide) (by decide) (by decide)
    have me : ((rowG ws nm pre.length : Nat) : Int) * ((pkN ws n - pre.count n : Nat) : Int) = ((rowG ws nm (pre.length + 1) : Nat) : Int) := by rw [st, Int.natCast_mul]
    have mx : max 0 (((pkN ws n - pre.count n : Nat) : Int) - 1) = ((pkN ws n - (pre ++ [n]).count n : Nat) : Int) := by
      rw [List.count_append, List.count_cons_self, List.count_nil]; omega
    generalize ((pkN ws n - (pre ++ [n]).count n : Nat) : Int) = x2 at *
    generalize ((pkN ws n - pre.count n : Nat) : Int) = x1 at *
    generalize rowG ws nm pre.length = F0 at *
    generalize rowG ws nm (pre.length + 1) = F1 at *
    simp [b_p_row_chance_2_ev, v0, ml, me, mx, show kvs.length < 16777216 by omega]
/-- what is told of a row of names -/
theorem row_chance_ok {ws : List WD} (hw : WOK ws) (nm : List Str) (hn : nm.length ≤ 50) : f_p_row_chance [trayD ws, .lst (nm.map .str)] =
    if (∀ n ∈ nm, pkO ws n ≠ none) then (if 1 ≤ nm.length ∧ nm.length ≤ 9 then (if totN ws < nm.length then .ex "TooFew" else
      .ok (.own, .tup [.int ((rowG ws nm nm.length / Nat.gcd (rowG ws nm nm.length) (fal (totN ws) nm.length) : Nat) : Int), .int ((fal (totN ws) nm.length / Nat.gcd (rowG ws nm nm.length) (fal (totN ws) nm.length) : Nat) : Int)])) else .ex "BadMany") else .ex "NoWood" := by
  obtain ⟨kvs', s', e1, h1⟩ := row_loop1 hw (.lst (nm.map .str)) nm [] [] .no (by simp; omega) (by simp) (by simp)
  have lr := look_room_ok hw (nm.length : Int)
  have lm : (nm.map D.str).length = nm.length := by simp
  by_cases c1 : ∀ n ∈ nm, pkO ws n ≠ none
  · rw [if_pos c1] at e1 ⊢
    obtain ⟨hv, hk⟩ := h1 c1
    obtain ⟨kvs2, s2, e2⟩ := row_loop2 hw (trayD ws) (.lst (nm.map .str)) nm (by omega) nm [] kvs' s' (by simp) (by simpa using hk) (fun n hn => by simpa using hv n hn)
    by_cases c2 : 1 ≤ nm.length
    · have c2' : (1 : Int) ≤ nm.length := by omega
      by_cases c3 : nm.length ≤ 9
      · have c3' : (nm.length : Int) ≤ 9 := by omega
        rw [if_pos ⟨c2, c3⟩]
        by_cases c4 : totN ws < nm.length
        · rw [if_pos c4]
          rw [if_pos (by omega)] at lr
          generalize trayD ws = T at *
          generalize nm.map D.str = NM at *
          simp [f_p_row_chance, mkF_ev, b_p_row_chance, e1, c2, c2', c3, c3', lm, lr, show nm.length ≤ 16777216 by omega]
        · rw [if_neg c4]
          rw [if_neg (by omega)] at lr
          have tl := tot_lt hw
          have fa := falling_ok (totN ws) (by omega) nm.length (by omega)
          have lo := lowest_ok (rowG ws nm nm.length) (fal (totN ws) nm.length) (Nat.lt_of_lt_of_le (rowG_big hw nm _ (by omega)) (Nat.pow_le_pow_right (by decide) (by decide))) (Nat.lt_of_lt_of_le (fal_big _ (by omega) _ (by omega)) (Nat.pow_le_pow_right (by decide) (by decide))) (fal_pos (by omega))
          have tt := fun s2 s3 => rm_total (a := locE 0) (ρ := [.bo [] (trayD ws), .bo [] (.lst (nm.map .str)), s2, s3, .bo [] (.int (rowG ws nm nm.length))]) (k := .bor []) (ws := ws) rfl
          rw [totN_eq fun w hw' => (hw.rng w hw').1] at tt
          have g0 : rowG ws nm 0 = 1 := rfl
          simp only [List.length_nil, g0] at e2
          generalize ((rowG ws nm nm.length / Nat.gcd (rowG ws nm nm.length) (fal (totN ws) nm.length) : Nat) : Int) = P1 at *
          generalize ((fal (totN ws) nm.length / Nat.gcd (rowG ws nm nm.length) (fal (totN ws) nm.length) : Nat) : Int) = P2 at *
          generalize trayD ws = T at *
          generalize nm.map D.str = NM at *
          generalize rowG ws nm nm.length = RG at *
          generalize fal (totN ws) nm.length = FA at *
          simp at e2
          simp [f_p_row_chance, mkF_ev, b_p_row_chance, e1, c2, c2', c3, c3', lm, lr, e2, tt, fa, lo, show nm.length ≤ 16777216 by omega, -rmE_ev]
      · have c3' : ¬ (nm.length : Int) ≤ 9 := by omega
        rw [if_neg (fun z => c3 z.2)]
        generalize trayD ws = T at *
        generalize nm.map D.str = NM at *
        simp [f_p_row_chance, mkF_ev, b_p_row_chance, e1, c2, c2', c3, c3', lm, show nm.length ≤ 16777216 by omega]
    · have c2' : ¬ (1 : Int) ≤ nm.length := by omega
      rw [if_neg (fun z => c2 z.1)]
      generalize trayD ws = T at *
      generalize nm.map D.str = NM at *
      simp [f_p_row_chance, mkF_ev, b_p_row_chance, e1, c2, c2', lm, show nm.length ≤ 16777216 by omega]
  · rw [if_neg c1] at e1 ⊢
    generalize trayD ws = T at *
    generalize nm.map D.str = NM at *
    simp [f_p_row_chance, mkF_ev, b_p_row_chance, e1]
end Cz
set_option maxHeartbeats 4000000
namespace Cz
open PySem PySem.Spec PyProof.Rows L2
theorem names_drawn_ok (c : Int) {ws : List WD} (hw : WOK ws) (st : Str) (hs : goodN st = true) : ∃ nm : List Str, f_l_names_drawn [.int c, .lst (ws.map woodD), .str st] = .ok (.own, .lst (nm.map .str)) ∧ nm.length ≤ 12 ∧ ∀ n ∈ nm, goodN n = true := by
  obtain ⟨row, e1, ir⟩ := draw_lit c [24, 6, 12, 3, 6, 6, 6, 6, 6, 6, 6, 6, 6, 6, 6] (by decide) (by decide)
  obtain ⟨r0, q0, p0, p0'⟩ := ir.get (i := 0) (l := 24) rfl
  obtain ⟨r1, q1, p1, p1'⟩ := ir.get (i := 1) (l := 6) rfl
  obtain ⟨r2, q2, p2, p2'⟩ := ir.get (i := 2) (l := 12) rfl
  obtain ⟨r3, q3, p3, p3'⟩ := ir.get (i := 3) (l := 3) rfl
  have rl : row.length = 15 := ir.len
  have l1 := hw.pos
  have l6 := hw.six
  have ew := lcE_noL (it := rng1I (conE (.int 11))) (own := [7]) (tg := tgN 7) (elt := e_l_names_drawn_1) (k := .own) (l := List.range 11) (f := fun k : Nat => .int (k : Int)) (h := fun _ => .int 6)
    (ρ := [.bo [] (.int c), .bo [] (.lst (ws.map woodD)), .bo [] (.str st), .no, .no, .no, .no, .no, .no]) (by simp [rng, show rgOk 11 = true from rgOk_of (by omega) (by omega)]) (by simp) (by simp) (fun k hk => ⟨_, .own, rfl, by simp [e_l_names_drawn_1_ev], rfl⟩)
  have l1' : (List.range 11).map (fun _ => D.int 6) = [.int 6, .int 6, .int 6, .int 6, .int 6, .int 6, .int 6, .int 6, .int 6, .int 6, .int 6] := rfl
  rw [l1'] at ew
  obtain ⟨sz, hsz, hsz2⟩ : ∃ sz : Nat, (if r0 < 13 then r0 % 12 else 1 + r0 % 6) = (sz : Int) ∧ sz ≤ 11 := by
    refine ⟨(if r0 < 13 then r0 % 12 else 1 + r0 % 6).toNat, ?_, ?_⟩ <;> split <;> omega
  obtain ⟨wd, hwd, wd1, wd2⟩ : ∃ wd : Int, atI [D.int 6, D.int 1, D.int 2] r3 = some (.int wd) ∧ 0 < wd ∧ wd ≤ 6 := by
    obtain h | h | h : r3 = 0 ∨ r3 = 1 ∨ r3 = 2 := by omega
    · exact ⟨6, by rw [h]; rfl, by omega, by omega⟩
    · exact ⟨1, by rw [h]; rfl, by omega, by omega⟩
    · exact ⟨2, by rw [h]; rfl, by omega, by omega⟩
  have e1' : f_l_draw [.int c, .lst [.int 24, .int 6, .int 12, .int 3, .int 6, .int 6, .int 6, .int 6, .int 6, .int 6, .int 6, .int 6, .int 6, .int 6, .int 6]] = .ok (.own, .lst (row.map .int)) := e1
  have a0 : atI (row.map D.int) 0 = some (.int r0) := by have := atX (u := row) (k := 0) (by omega); rw [show row.getD 0 0 = r0 by simp [List.getD, q0]] at this; exact this
  have a1 : atI (row.map D.int) 1 = some (.int r1) := by have := atX (u := row) (k := 1) (by omega); rw [show row.getD 1 0 = r1 by simp [List.getD, q1]] at this; exact this
  have a2 : atI (row.map D.int) 2 = some (.int r2) := by have := atX (u := row) (k := 2) (by omega); rw [show row.getD 2 0 = r2 by simp [List.getD, q2]] at this; exact this
  have a3 : atI (row.map D.int) 3 = some (.int r3) := by have := atX (u := row) (k := 3) (by omega); rw [show row.getD 3 0 = r3 by simp [List.getD, q3]] at this; exact this
  obtain ⟨q, hq⟩ : ∃ q : List Int, q = (row.take (4 + sz)).drop 4 := ⟨_, rfl⟩
  have ql : q.length = sz := by rw [hq]; simp; omega
  have cq : cutD (row.map D.int) (some 4) (some (4 + (sz : Int))) = q.map D.int := by
    rw [cut_both _ _ _ (by omega) (by omega), hq, show (4 + (sz : Int)).toNat = 4 + sz by omega]; simp
  have wa : ∀ x : Int, ∃ w ∈ ws, atI (ws.map woodD) (x % wd % (ws.length : Int)) = some (.tup [.str w.1, .int w.2]) := fun x => by
    have m1 := Int.emod_nonneg (x % wd) (show (ws.length : Int) ≠ 0 by omega)
    have m2 := Int.emod_lt_of_pos (x % wd) (show 0 < (ws.length : Int) by omega)
    have hj : (x % wd % (ws.length : Int)).toNat < ws.length := by omega
    refine ⟨ws[(x % wd % (ws.length : Int)).toNat], List.getElem_mem hj, ?_⟩
    rw [atI_nn _ _ m1, List.getElem?_map, List.getElem?_eq_getElem hj]; rfl
  obtain ⟨wf, hwf⟩ : ∃ wf : Int → WD, ∀ x, wf x ∈ ws ∧ atI (ws.map woodD) (x % wd % (ws.length : Int)) = some (.tup [.str (wf x).1, .int (wf x).2]) := by
    have : ∀ x : Int, ∃ w, w ∈ ws ∧ atI (ws.map woodD) (x % wd % (ws.length : Int)) = some (.tup [.str w.1, .int w.2]) := fun x => by
      obtain ⟨w, h1, h2⟩ := wa x; exact ⟨w, h1, h2⟩
    exact ⟨fun x => (this x).choose, fun x => (this x).choose_spec⟩
  have f1 := lcE_noL (it := seqI (slE (locE 3) (someO (conE (.int 4))) (someO (binE .Add (conE (.int 4)) (locE 4))))) (own := [8]) (tg := tgN 8) (elt := e_l_names_drawn_2) (k := .own) (l := q) (f := .int) (h := fun x => .str (wf x).1)
    (ρ := [.bo [] (.int c), .bo [] (.lst (ws.map woodD)), .bo [] (.str st), .ow (.lst (row.map .int)), .bo [] (.int sz), .bo [] (.int wd), .no, .no, .no]) (by simp [cq]) (by simp) (by omega) (fun x hx => ⟨[.bo [] (.int c), .bo [] (.lst (ws.map woodD)), .bo [] (.str st), .ow (.lst (row.map .int)), .bo [] (.int sz), .bo [] (.int wd), .no, .no, .bo [] (.int x)], .bor [], by simp, by
      have h2 := (hwf x).2
      generalize wf x = w at *
      have lw : (ws.map woodD).length = ws.length := by simp
      generalize ws.map woodD = L at *
      simp [e_l_names_drawn_2_ev, wd1, h2, lw, show 0 < ws.length by omega, show ws.length ≤ 16777216 by omega], rfl⟩)
  obtain ⟨n0, hn0⟩ : ∃ n0 : List Str, n0 = q.map fun x => (wf x).1 := ⟨_, rfl⟩
  have n0l : n0.length = sz := by rw [hn0]; simp [ql]
  have n0g : ∀ n ∈ n0, goodN n = true := fun n hn => by
    rw [hn0] at hn
    obtain ⟨x, _, rfl⟩ := List.mem_map.mp hn
    exact hw.good _ (hwf x).1
  have fe : (q.map fun x => D.str (wf x).1) = n0.map D.str := by rw [hn0, List.map_map]; rfl
  rw [fe] at f1
  have i0 := Int.emod_nonneg r2 (show (sz : Int) + 1 ≠ 0 by omega)
  have i1 := Int.emod_lt_of_pos r2 (show 0 < (sz : Int) + 1 by omega)
  obtain ⟨ii, hii⟩ : ∃ ii : Nat, r2 % ((sz : Int) + 1) = (ii : Int) := ⟨(r2 % ((sz : Int) + 1)).toNat, by omega⟩
  have run : ∃ nm : List Str, b_l_names_drawn [.bo [] (.int c), .bo [] (.lst (ws.map woodD)), .bo [] (.str st), .no, .no, .no, .no, .no, .no] = .rt .own (.lst (nm.map .str)) ∧ nm.length ≤ 12 ∧ ∀ n ∈ nm, goodN n = true := by
    unfold b_l_names_drawn
    generalize ws.map woodD = L at *
    rw [seq_step (ρ' := [.bo [] (.int c), .bo [] (.lst L), .bo [] (.str st), .ow (.lst (row.map .int)), .no, .no, .no, .no, .no]) (by simp [ew, e1'])]
    rw [seq_step (ρ' := [.bo [] (.int c), .bo [] (.lst L), .bo [] (.str st), .ow (.lst (row.map .int)), .bo [] (.int sz), .no, .no, .no, .no]) (by
      rw [← hsz]
      by_cases h : r0 < 13 <;> simp [q0, h])]
    rw [seq_step (ρ' := [.bo [] (.int c), .bo [] (.lst L), .bo [] (.str st), .ow (.lst (row.map .int)), .bo [] (.int sz), .bo [] (.int wd), .no, .no, .no]) (by simp [q3, hwd])]
    rw [seq_step (ρ' := [.bo [] (.int c), .bo [] (.lst L), .bo [] (.str st), .ow (.lst (row.map .int)), .bo [] (.int sz), .bo [] (.int wd), .ow (.lst (n0.map .str)), .no, .no]) (by simp [f1])]
    by_cases h : r1 = 0
    · refine ⟨n0.take ii ++ [st] ++ n0.drop ii, ?_, by simp; omega, fun n hn => ?_⟩
      · have ne : ((n0.take ii ++ [st] ++ n0.drop ii).map D.str) = (n0.map D.str).take ii ++ [D.str st] ++ (n0.map D.str).drop ii := by simp
        rw [ne]
        have ln : (n0.map D.str).length = sz := by simp [n0l]
        generalize n0.map D.str = NM at *
        simp [q1, q2, h, hii, ln, show 0 < (sz : Int) + 1 by omega, show sz < 16777216 by omega, show ii ≤ 16777216 by omega, show (ii : Int) ≤ 16777216 by omega]
      · rw [List.append_assoc] at hn
        rcases List.mem_append.mp hn with h | h
        · exact n0g n (List.mem_of_mem_take h)
        · rcases List.mem_append.mp h with h | h
          · simp at h; subst h; exact hs
          · exact n0g n (List.mem_of_mem_drop h)
    · exact ⟨n0, by simp [q1, h], by omega, n0g⟩
  obtain ⟨nm, e, l3, t3⟩ := run
  refine ⟨nm, ?_, l3, t3⟩
  show mkF 3 9 b_l_names_drawn _ = _
  simp only [mkF_ev, List.length_cons, List.length_nil, if_true, runF_ev, List.map_cons, List.map_nil, List.cons_append, List.nil_append, Nat.reduceAdd, Nat.reduceSub, List.replicate]
  rw [e]; simp
theorem due_row_ok {ws : List WD} (hw : WOK ws) (nm : List Str) (hn : nm.length ≤ 12) (hg : ∀ n ∈ nm, goodN n = true) : f_l_due_v3 [.lst (ws.map woodD), .lst (nm.map .str)] =
    .ok (.own, if (∀ n ∈ nm, pkO ws n ≠ none) then (if 1 ≤ nm.length ∧ nm.length ≤ 9 then (if totN ws < nm.length then .lst [.str "few"] else .non) else .lst [.str "count"]) else .lst [.str "no wood"]) := by
  have l6 := hw.six
  have f1 := lcE_noL (it := seqI (locE 1)) (own := [2]) (tg := tgN 2) (elt := e_l_due_v3_1) (k := .bor []) (l := nm) (f := D.str) (h := fun n => .bl (decide (pkO ws n ≠ none)))
    (ρ := [.bo [] (.lst (ws.map woodD)), .bo [] (.lst (nm.map .str)), .no, .no, .no]) (by simp) (by simp) (by omega) (fun n hn => ⟨[.bo [] (.lst (ws.map woodD)), .bo [] (.lst (nm.map .str)), .bo [] (.str n), .no, .no], .own, by simp, by
      have q := lcE_noL (it := seqI (locE 0)) (own := [3, 4]) (tg := tgT (tgCons (tgN 3) (tgCons (tgN 4) tgNil))) (elt := e_l_due_v3_2) (k := .bor []) (l := ws) (f := woodD) (h := fun w => .str w.1)
        (ρ := [.bo [] (.lst (ws.map woodD)), .bo [] (.lst (nm.map .str)), .bo [] (.str n), .no, .no]) (by simp) (by simp) (by omega) (fun w hw => ⟨[.bo [] (.lst (ws.map woodD)), .bo [] (.lst (nm.map .str)), .bo [] (.str n), .bo [] (.str w.1), .bo [] (.int w.2)], .bor [], by simp [woodD], by simp [e_l_due_v3_2_ev], rfl⟩)
      have fe : (ws.map fun w => D.str w.1) = (ws.map (·.1)).map D.str := by rw [List.map_map]; rfl
      rw [fe] at q
      have i := inD_strs (goodN_ok (hg n hn)) (l := ws.map (·.1)) (fun x hx => by
        obtain ⟨w, hw', rfl⟩ := List.mem_map.mp hx; exact goodN_ok (hw.good w hw'))
      have pe : decide (n ∈ ws.map (·.1)) = decide (pkO ws n ≠ none) := by
        by_cases z : pkO ws n = none
        · rw [decide_eq_false (pkO_none.mp z), decide_eq_false (fun f => f z)]
        · rw [decide_eq_true z, decide_eq_true (Classical.byContradiction fun f => z (pkO_none.mpr f))]
      rw [pe] at i
      generalize (ws.map (·.1)).map D.str = NS at *
      generalize ws.map woodD = L at *
      generalize nm.map D.str = NM at *
      simp [e_l_due_v3_1_ev, q, i], rfl⟩)
  have b1 : blsD (nm.map fun n => D.bl (decide (pkO ws n ≠ none))) = some (nm.map fun n => decide (pkO ws n ≠ none)) := blsD_fn _ _
  have a1 : (nm.map fun n => decide (pkO ws n ≠ none)).all id = decide (∀ n ∈ nm, pkO ws n ≠ none) := by
    rw [List.all_map, Bool.eq_iff_iff, List.all_eq_true, decide_eq_true_iff]; simp
  have tt := l_total_ok ws (by omega)
  rw [totN_eq fun w hw' => (hw.rng w hw').1] at tt
  have lm : (nm.map D.str).length = nm.length := by simp
  generalize (nm.map fun n => D.bl (decide (pkO ws n ≠ none))) = BL at *
  generalize (nm.map fun n => decide (pkO ws n ≠ none)) = BB at *
  generalize ws.map woodD = L at *
  generalize nm.map D.str = NM at *
  by_cases c1 : ∀ n ∈ nm, pkO ws n ≠ none
  · rw [decide_eq_true c1] at a1
    rw [if_pos c1]
    by_cases c2 : 1 ≤ nm.length
    · have c2' : (1 : Int) ≤ nm.length := by omega
      by_cases c3 : nm.length ≤ 9
      · have c3' : (nm.length : Int) ≤ 9 := by omega
        rw [if_pos ⟨c2, c3⟩]
        by_cases c4 : totN ws < nm.length
        · rw [if_pos c4]
          have c4' : (totN ws : Int) < nm.length := by omega
          simp [f_l_due_v3, mkF_ev, b_l_due_v3, f1, b1, a1, tt, lm, c2', c3', c4, c4', show nm.length ≤ 16777216 by omega]
        · rw [if_neg c4]
          have c4' : ¬ (totN ws : Int) < nm.length := by omega
          simp [f_l_due_v3, mkF_ev, b_l_due_v3, f1, b1, a1, tt, lm, c2', c3', c4, c4', show nm.length ≤ 16777216 by omega]
      · have c3' : ¬ (nm.length : Int) ≤ 9 := by omega
        rw [if_neg (fun z => c3 z.2)]
        simp [f_l_due_v3, mkF_ev, b_l_due_v3, f1, b1, a1, lm, c2', c3', show nm.length ≤ 16777216 by omega]
    · have c2' : ¬ (1 : Int) ≤ nm.length := by omega
      rw [if_neg (fun z => c2 z.1)]
      simp [f_l_due_v3, mkF_ev, b_l_due_v3, f1, b1, a1, lm, c2', show nm.length ≤ 16777216 by omega]
  · rw [decide_eq_false c1] at a1
    rw [if_neg c1]
    simp [f_l_due_v3, mkF_ev, b_l_due_v3, f1, b1, a1]
theorem sxr1 : subX "NoWood" "NoWood" = true := by decide
theorem sxr2 : subX "BadMany" "NoWood" = false := by decide
theorem sxr3 : subX "BadMany" "BadMany" = true := by decide
theorem sxr4 : subX "TooFew" "NoWood" = false := by decide
theorem sxr5 : subX "TooFew" "BadMany" = false := by decide
theorem sxr6 : subX "TooFew" "TooFew" = true := by decide
theorem tried_row_ok {ws : List WD} (hw : WOK ws) (nm : List Str) (hn : nm.length ≤ 50) : f_l_tried_v10 [trayD ws, .lst (nm.map .str)] =
    .ok (.own, if (∀ n ∈ nm, pkO ws n ≠ none) then (if 1 ≤ nm.length ∧ nm.length ≤ 9 then (if totN ws < nm.length then .lst [.str "few"] else
      .tup [.int ((rowG ws nm nm.length / Nat.gcd (rowG ws nm nm.length) (fal (totN ws) nm.length) : Nat) : Int), .int ((fal (totN ws) nm.length / Nat.gcd (rowG ws nm nm.length) (fal (totN ws) nm.length) : Nat) : Int)]) else .lst [.str "count"]) else .lst [.str "no wood"]) := by
  have e := row_chance_ok hw nm hn
  generalize ((rowG ws nm nm.length / Nat.gcd (rowG ws nm nm.length) (fal (totN ws) nm.length) : Nat) : Int) = P1 at *
  generalize ((fal (totN ws) nm.length / Nat.gcd (rowG ws nm nm.length) (fal (totN ws) nm.length) : Nat) : Int) = P2 at *
  have nkT : ∀ k, nk k (trayD ws) = .own := fun k => by simp [trayD]
  generalize trayD ws = T at *
  generalize nm.map D.str = NM at *
  split at e
  · rename_i c1
    rw [if_pos c1]
    split at e
    · rename_i c2
      rw [if_pos c2]
      split at e
      · rename_i c3
        rw [if_pos c3]
        simp [f_l_tried_v10, mkF_ev, b_l_tried_v10, b_l_tried_v10_1_ev, e, sxr1, sxr2, sxr3, sxr4, sxr5, sxr6]
      · rename_i c3
        rw [if_neg c3]
        simp [f_l_tried_v10, mkF_ev, b_l_tried_v10, b_l_tried_v10_1_ev, e]
    · rename_i c2
      rw [if_neg c2]
      simp [f_l_tried_v10, mkF_ev, b_l_tried_v10, b_l_tried_v10_1_ev, e, sxr1, sxr2, sxr3]
  · rename_i c1
    rw [if_neg c1]
    simp [f_l_tried_v10, mkF_ev, b_l_tried_v10, b_l_tried_v10_1_ev, e, sxr1]
theorem eqD_strsL (A B : List Str) (hA : ∀ w ∈ A, PyData.strOk w = true) (hB : ∀ w ∈ B, PyData.strOk w = true) : eqD (.lst (A.map .str)) (.lst (B.map .str)) = some (decide (A = B)) := by
  have c : ∀ L : List Str, (∀ w ∈ L, PyData.strOk w = true) → cmD 64 (.lst (L.map .str)) = true := fun L h => by
    rw [cmD_lst, cmDs_map]; exact List.all_eq_true.mpr fun w hw => by simp [h w hw]
  rw [eqD_of (c A hA) (c B hB), eqv2_lst, eqvs_map D.str (fun a b => by by_cases h : a = b <;> simp [h])]
theorem prsD_ws : ∀ ws : List WD, prsD (ws.map woodD) = some ws
  | [] => rfl
  | w :: r => by
    show (prsD (r.map woodD)).map ((w.1, w.2) :: ·) = _
    rw [prsD_ws r]; rfl
theorem kvI_kv (ws : List WD) : kvI ws = kv ws := rfl
theorem over_loop {ws : List WD} (hw : WOK ws) (nm : List Str) (hn : nm.length ≤ 100) (hp : ∀ n ∈ nm, pkO ws n ≠ none) (d0 d1 d2 d3 d5 : Sl) (s7 s8 s9 : Sl) : ∀ (m k : Nat) (s11 s12 : Sl), k + m = nm.length →
    ∃ s11' s12', loopS (tgN 11) b_l_law_k28_2 ((List.range' k m).map fun i : Nat => D.int i) [d0, d1, d2, d3, .bo [] (.lst (ws.map woodD)), d5, .ow (.lst (nm.map .str)), s7, s8, s9, .bo [] (.int (rowG ws nm k)), s11, s12] =
      .nx [d0, d1, d2, d3, .bo [] (.lst (ws.map woodD)), d5, .ow (.lst (nm.map .str)), s7, s8, s9, .bo [] (.int (rowG ws nm nm.length)), s11', s12']
  | 0, k, s11, s12, h => ⟨s11, s12, by rw [show k = nm.length by omega]; rfl⟩
  | m + 1, k, s11, s12, h => by
    have hk : k < nm.length := by omega
    obtain ⟨n, hn'⟩ : ∃ n, n = nm[k] := ⟨_, rfl⟩
    have gd : nm.getD k "" = n := by rw [hn']; simp [List.getD, hk]
    have at1 : atI (nm.map D.str) (k : Int) = some (.str n) := by
      rw [atI_nn _ _ (by omega), Int.toNat_natCast, List.getElem?_map, List.getElem?_eq_getElem hk, hn']; rfl
    have ct : cutD (nm.map D.str) none (some (k : Int)) = (nm.take k).map D.str := by rw [cut_to _ _ (by omega), List.map_take]; rfl
    obtain ⟨x, hx⟩ : ∃ x, pkO ws n = some x := by
      cases h : pkO ws n with
      | none => exact absurd h (hp n (hn' ▸ List.getElem_mem hk))
      | some x => exact ⟨x, rfl⟩
    have hx2 := pkO_pkN hw hx
    have vd : valD (kv ws) (.inr n) = some (.int (pkN ws n)) := by rw [valD_kv, hx, hx2]; rfl
    have st : rowG ws nm (k + 1) = rowG ws nm k * (pkN ws n - (nm.take k).count n) := by
      show rowG ws nm k * _ = _
      rw [gd]
    have ml : mulOk ((rowG ws nm k : Nat) : Int) ((pkN ws n - (nm.take k).count n : Nat) : Int) = true :=
      mulOk_of (a := 2001) (b := 20) (by simp only [Int.natAbs_natCast]; exact rowG_big hw nm _ (by omega)) (by simp only [Int.natAbs_natCast]; have := pkN_lt hw n; omega) (by decide) (by decide) (by decide)
    have me : ((rowG ws nm k : Nat) : Int) * ((pkN ws n - (nm.take k).count n : Nat) : Int) = ((rowG ws nm (k + 1) : Nat) : Int) := by rw [st, Int.natCast_mul]
    have mx := mx_nat (pkN ws n) ((nm.take k).count n)
    have dc : prsD (ws.map woodD) = some ws := prsD_ws ws
    have mg : mgI [] ws = ws := by rw [mgI_nd ws [] (by simpa using hw.nd)]; rfl
    obtain ⟨s11', s12', e⟩ := over_loop hw nm hn hp d0 d1 d2 d3 d5 s7 s8 s9 m (k + 1) (.bo [] (.int k)) (.bo [] (.int ((nm.take k).count n : Nat))) (by omega)
    refine ⟨s11', s12', ?_⟩
    have sd : strsD ((nm.take k).map D.str) = some (nm.take k) := strsD_map _
    have lkn : ∀ kk, lk kk ((nm.take k).map D.str) = .own := fun kk => lk_noL (noLs_strs _)
    rw [List.range'_succ, List.map_cons, loopS_cons, ← e]
    generalize ((pkN ws n - (nm.take k).count n : Nat) : Int) = x1 at *
    generalize rowG ws nm k = F0 at *
    generalize rowG ws nm (k + 1) = F1 at *
    generalize (nm.take k).map D.str = TK at *
    generalize nm.map D.str = NM at *
    generalize ws.map woodD = L at *
    simp [b_l_law_k28_2_ev, at1, ct, sd, lkn, dc, mg, kvI_kv, vd, mx, ml, me]
theorem law_ok_k28 : ∀ ns : List Int, ns.length ≤ 63 → (∀ z ∈ ns, Builtin.Int.intBits z ≤ 1048576) → f_l_law_k28 [.scr (ns.map D.int)] = .ok (.own, .bl true) := by
  intro ns hl hb
  have hlen : ns.length ≤ 16777216 := by omega
  have ht : 0 ≤ turns ns 3 ∧ turns ns 3 ≤ 63 := by unfold turns; omega
  have rg : rgOk (turns ns 3) = true := rgOk_of (by omega) (by omega)
  obtain ⟨_, ⟨s1, s2, s3, s4, s5, s6, s7, s8, s9, s10, s11, s12, rfl⟩, e⟩ := law_turns (b := b_l_law_k28_1) (i := 1) (fun ρ => ∃ s1 s2 s3 s4 s5 s6 s7 s8 s9 s10 s11 s12, ρ = [.bo [] (.scr (ns.map D.int)), s1, s2, s3, s4, s5, s6, s7, s8, s9, s10, s11, s12]) (by
    rintro k ρ hk ⟨s1, s2, s3, s4, s5, s6, s7, s8, s9, s10, s11, s12, rfl⟩
    have e2 := cell_ok ns k (by omega) (by omega)
    obtain ⟨sp, e3, sl, sc⟩ := split_ok (cellI ns k) 0 2 1 (cell_cel ns k (by omega) (by omega) hb) (by omega) (by decide) (by decide)
    obtain ⟨x, y, rfl⟩ : ∃ x y, sp = [x, y] := by
      match sp, sl with
      | [x, y], _ => exact ⟨x, y, rfl⟩
    obtain ⟨ws, st, hw, e4⟩ := lwoods_ok x 1 (sc x (by simp)) (by omega)
    have w0 := hw.wok
    obtain ⟨nm, e5, nl, ng⟩ := names_drawn_ok y w0 st hw.gst
    have du := due_row_ok w0 nm nl ng
    have tr := tried_row_ok w0 nm (by omega)
    have l6 := hw.six
    have l1 := hw.pos
    have mk := fun ρ (h : bltE bLst (consA (locE 4) nilA) ρ = .ok (.own, .lst (ws.map woodD))) => make_tray ws w0.len (by omega) (r := consA (bltE bLst (consA (locE 4) nilA)) nilA) (ρ := ρ) (k := .own) (by rw [consA_ev, h]; simp)
    have c1 : f_l_cell [.scr (ns.map .int), .int k] = .ok (.own, .int (cellI ns k)) := e2
    have e3' : f_l_split [.int (cellI ns k), .int 2, .int 1] = .ok (.own, .lst [.int x, .int y]) := e3
    have lkn : ∀ kk, lk kk (nm.map D.str) = .own := fun kk => lk_noL (noLs_strs _)
    have lkw : ∀ k, lk k (ws.map woodD) = .own := fun k => lk_noL (noLs_wD ws)
    have lm : (nm.map D.str).length = nm.length := by simp
    have lw : (ws.map woodD).length = ws.length := by simp
    have nl2 : nm.length ≤ 16777216 := by omega
    have wl2 : ws.length ≤ 16777216 := by omega
    have eqn := eqD_strsL nm nm (fun n h => goodN_ok (ng n h)) (fun n h => goodN_ok (ng n h))
    rw [decide_eq_true rfl] at eqn
    have mk' := mk [.bo [] (.scr (ns.map D.int)), .bo [] (.int k), .bo [] (.int x), .bo [] (.int y), .bo [] (.lst (ws.map woodD)), .bo [] (.str st), .ow (.lst (nm.map .str)), .ow (.lst (nm.map .str)), s8, s9, s10, s11, s12] (by simp [wl2, lkw])
    rw [w0.ok, if_pos rfl] at mk'
    rw [b_l_law_k28_1_ev]
    refine good_step [.bo [] (.scr (ns.map D.int)), .bo [] (.int k), .bo [] (.int x), .bo [] (.int y), s4, s5, s6, s7, s8, s9, s10, s11, s12] (by simp [c1, e3']) ?_
    refine good_step [.bo [] (.scr (ns.map D.int)), .bo [] (.int k), .bo [] (.int x), .bo [] (.int y), .bo [] (.lst (ws.map woodD)), .bo [] (.str st), s6, s7, s8, s9, s10, s11, s12] (by simp [e4]) ?_
    refine good_step [.bo [] (.scr (ns.map D.int)), .bo [] (.int k), .bo [] (.int x), .bo [] (.int y), .bo [] (.lst (ws.map woodD)), .bo [] (.str st), .ow (.lst (nm.map .str)), s7, s8, s9, s10, s11, s12] (by simp [e5]) ?_
    refine good_step [.bo [] (.scr (ns.map D.int)), .bo [] (.int k), .bo [] (.int x), .bo [] (.int y), .bo [] (.lst (ws.map woodD)), .bo [] (.str st), .ow (.lst (nm.map .str)), .ow (.lst (nm.map .str)), s8, s9, s10, s11, s12] (by simp [nl2, lkn]) ?_
    have lo : ∀ (n : Nat), n = nm.length → (∀ n ∈ nm, pkO ws n ≠ none) → ∀ (s8 s9 s11 s12 : Sl), ∃ s11' s12', loopS (tgN 11) b_l_law_k28_2 ((List.range nm.length).map fun i : Nat => D.int i) [.bo [] (.scr (ns.map D.int)), .bo [] (.int k), .bo [] (.int x), .bo [] (.int y), .bo [] (.lst (ws.map woodD)), .bo [] (.str st), .ow (.lst (nm.map .str)), .ow (.lst (nm.map .str)), s8, s9, .bo [] (.int 1), s11, s12] =
      .nx [.bo [] (.scr (ns.map D.int)), .bo [] (.int k), .bo [] (.int x), .bo [] (.int y), .bo [] (.lst (ws.map woodD)), .bo [] (.str st), .ow (.lst (nm.map .str)), .ow (.lst (nm.map .str)), s8, s9, .bo [] (.int (rowG ws nm nm.length)), s11', s12'] := fun _ _ hp s8 s9 s11 s12 => by
      have := over_loop w0 nm (by omega) hp (.bo [] (.scr (ns.map D.int))) (.bo [] (.int k)) (.bo [] (.int x)) (.bo [] (.int y)) (.bo [] (.str st)) (.ow (.lst (nm.map .str))) s8 s9 nm.length 0 s11 s12 (by omega)
      rw [← List.range_eq_range'] at this
      exact this
    have tl := tot_lt w0
    have tt := l_total_ok ws (by omega)
    rw [totN_eq fun w hw' => (w0.rng w hw').1] at tt
    have nkT : ∀ k, nk k (trayD ws) = .own := fun k => by simp [trayD]
    have ts : ∀ (a b : D), mkS .own (.tup [.int 1, .int 2]) = .ow (.tup [.int 1, .int 2]) := fun _ _ => rfl
    have eqs : ∀ z : Str, PyData.strOk z = true → eqD (.lst [.str z]) (.lst [.str z]) = some true := fun z hz => by
      have := eqD_strsL [z] [z] (by simpa using hz) (by simpa using hz)
      simpa using this
    by_cases q1 : ∀ n ∈ nm, pkO ws n ≠ none
    · rw [if_pos q1] at du tr
      by_cases q2 : 1 ≤ nm.length ∧ nm.length ≤ 9
      · rw [if_pos q2] at du tr
        by_cases q3 : totN ws < nm.length
        · rw [if_pos q3] at du tr
          have eq := eqs "few" (by decide +kernel)
          generalize trayD ws = T at *
          refine good_step [.bo [] (.scr (ns.map D.int)), .bo [] (.int k), .bo [] (.int x), .bo [] (.int y), .bo [] (.lst (ws.map woodD)), .bo [] (.str st), .ow (.lst (nm.map .str)), .ow (.lst (nm.map .str)), .ow (.lst [.str "few"]), s9, s10, s11, s12] (by simp [mk', tr]) ?_
          refine good_step [.bo [] (.scr (ns.map D.int)), .bo [] (.int k), .bo [] (.int x), .bo [] (.int y), .bo [] (.lst (ws.map woodD)), .bo [] (.str st), .ow (.lst (nm.map .str)), .ow (.lst (nm.map .str)), .ow (.lst [.str "few"]), .ow (.lst [.str "few"]), s10, s11, s12] (by simp [du]) ?_
          refine good_step [.bo [] (.scr (ns.map D.int)), .bo [] (.int k), .bo [] (.int x), .bo [] (.int y), .bo [] (.lst (ws.map woodD)), .bo [] (.str st), .ow (.lst (nm.map .str)), .ow (.lst (nm.map .str)), .ow (.lst [.str "few"]), .ow (.lst [.str "few"]), s10, s11, s12] (by simp [eqn]) ?_
          simp [eq]
        · rw [if_neg q3] at du tr
          have fp := fal_pos (m := totN ws) (n := nm.length) (by omega)
          have bg1 := Nat.lt_of_lt_of_le (rowG_big w0 nm nm.length (by omega)) (Nat.pow_le_pow_right (by decide) (show 2001 ≤ 4000 by decide))
          have bg2 := Nat.lt_of_lt_of_le (fal_big (totN ws) (by omega) nm.length (by omega)) (Nat.pow_le_pow_right (by decide) (show 2001 ≤ 4000 by decide))
          have fr := fraction_ok (rowG ws nm nm.length) (fal (totN ws) nm.length) (rowG ws nm nm.length) (fal (totN ws) nm.length) bg1 bg2 fp bg1 bg2 rfl
          have dw := down_ok (totN ws) (by omega) nm.length (by omega)
          generalize ((rowG ws nm nm.length / Nat.gcd (rowG ws nm nm.length) (fal (totN ws) nm.length) : Nat) : Int) = P1 at *
          generalize ((fal (totN ws) nm.length / Nat.gcd (rowG ws nm nm.length) (fal (totN ws) nm.length) : Nat) : Int) = P2 at *
          generalize trayD ws = T at *
          refine good_step [.bo [] (.scr (ns.map D.int)), .bo [] (.int k), .bo [] (.int x), .bo [] (.int y), .bo [] (.lst (ws.map woodD)), .bo [] (.str st), .ow (.lst (nm.map .str)), .ow (.lst (nm.map .str)), .ow (.tup [.int P1, .int P2]), s9, s10, s11, s12] (by simp [mk', tr]) ?_
          refine good_step [.bo [] (.scr (ns.map D.int)), .bo [] (.int k), .bo [] (.int x), .bo [] (.int y), .bo [] (.lst (ws.map woodD)), .bo [] (.str st), .ow (.lst (nm.map .str)), .ow (.lst (nm.map .str)), .ow (.tup [.int P1, .int P2]), .bo [] .non, s10, s11, s12] (by simp [du]) ?_
          refine good_step [.bo [] (.scr (ns.map D.int)), .bo [] (.int k), .bo [] (.int x), .bo [] (.int y), .bo [] (.lst (ws.map woodD)), .bo [] (.str st), .ow (.lst (nm.map .str)), .ow (.lst (nm.map .str)), .ow (.tup [.int P1, .int P2]), .bo [] .non, s10, s11, s12] (by simp [eqn]) ?_
          obtain ⟨s11', s12', le⟩ := lo _ rfl q1 (.ow (.tup [.int P1, .int P2])) (.bo [] .non) s11 s12
          have rgn : rgOk (nm.length : Int) = true := rgOk_of (by omega) (by omega)
          generalize rowG ws nm nm.length = RG at *
          generalize fal (totN ws) nm.length = FA at *
          generalize nm.map D.str = NM at *
          generalize ws.map woodD = L at *
          simp [lm, nl2, rgn, rng, le, tt, dw, fr]
      · rw [if_neg q2] at du tr
        have eq := eqs "count" (by decide +kernel)
        generalize trayD ws = T at *
        refine good_step [.bo [] (.scr (ns.map D.int)), .bo [] (.int k), .bo [] (.int x), .bo [] (.int y), .bo [] (.lst (ws.map woodD)), .bo [] (.str st), .ow (.lst (nm.map .str)), .ow (.lst (nm.map .str)), .ow (.lst [.str "count"]), s9, s10, s11, s12] (by simp [mk', tr]) ?_
        refine good_step [.bo [] (.scr (ns.map D.int)), .bo [] (.int k), .bo [] (.int x), .bo [] (.int y), .bo [] (.lst (ws.map woodD)), .bo [] (.str st), .ow (.lst (nm.map .str)), .ow (.lst (nm.map .str)), .ow (.lst [.str "count"]), .ow (.lst [.str "count"]), s10, s11, s12] (by simp [du]) ?_
        refine good_step [.bo [] (.scr (ns.map D.int)), .bo [] (.int k), .bo [] (.int x), .bo [] (.int y), .bo [] (.lst (ws.map woodD)), .bo [] (.str st), .ow (.lst (nm.map .str)), .ow (.lst (nm.map .str)), .ow (.lst [.str "count"]), .ow (.lst [.str "count"]), s10, s11, s12] (by simp [eqn]) ?_
        simp [eq]
    · rw [if_neg q1] at du tr
      have eq := eqs "no wood" (by decide +kernel)
      generalize trayD ws = T at *
      refine good_step [.bo [] (.scr (ns.map D.int)), .bo [] (.int k), .bo [] (.int x), .bo [] (.int y), .bo [] (.lst (ws.map woodD)), .bo [] (.str st), .ow (.lst (nm.map .str)), .ow (.lst (nm.map .str)), .ow (.lst [.str "no wood"]), s9, s10, s11, s12] (by simp [mk', tr]) ?_
      refine good_step [.bo [] (.scr (ns.map D.int)), .bo [] (.int k), .bo [] (.int x), .bo [] (.int y), .bo [] (.lst (ws.map woodD)), .bo [] (.str st), .ow (.lst (nm.map .str)), .ow (.lst (nm.map .str)), .ow (.lst [.str "no wood"]), .ow (.lst [.str "no wood"]), s10, s11, s12] (by simp [du]) ?_
      refine good_step [.bo [] (.scr (ns.map D.int)), .bo [] (.int k), .bo [] (.int x), .bo [] (.int y), .bo [] (.lst (ws.map woodD)), .bo [] (.str st), .ow (.lst (nm.map .str)), .ow (.lst (nm.map .str)), .ow (.lst [.str "no wood"]), .ow (.lst [.str "no wood"]), s10, s11, s12] (by simp [eqn]) ?_
      simp [eq]) (turns ns 3).toNat (by omega) ⟨.no, .no, .no, .no, .no, .no, .no, .no, .no, .no, .no, .no, rfl⟩
  simp [f_l_law_k28, mkF_ev, b_l_law_k28, many_ok, rg, rng, e]
end Cz
set_option maxHeartbeats 4000000
namespace Cz
open PySem PySem.Spec PyProof.Rows L2
def topS (i : Nat) : Stmt := PySem.Challenge.pw_censers_k28_chances_of_rows.main.body.getD i (.Pass ⟨0, 0, 0, 0⟩)
structure Gs (K : PySem.W.Frag) (mg : Str → Option Value) (CA : String → Addr) : Prop where
  g_GREATEST : ∃ t, mg "GREATEST" = some (.int 9 t)
  g_LETTERS : ∃ t, mg "LETTERS" = some (.str "abcdefghijklmnopqrstuvwxyz" t)
  g_all : mg "all" = none
  g_bool : mg "bool" = none
  g_dict : mg "dict" = none
  g_int : mg "int" = none
  g_isinstance : mg "isinstance" = none
  g_len : mg "len" = none
  g_list : mg "list" = none
  g_max : mg "max" = none
  g_min : mg "min" = none
  g_range : mg "range" = none
  g_sum : mg "sum" = none
  g_tuple : mg "tuple" = none
  x_BadMany : ExG K mg CA "BadMany"
  x_BadTray : ExG K mg CA "BadTray"
  x_NoWood : ExG K mg CA "NoWood"
  x_TooFew : ExG K mg CA "TooFew"
  y_BadMany_BadMany : PySem.W.exmOne K (.ref (CA "BadMany")) (.ref (CA "BadMany")) = some true
  y_BadMany_NoWood : PySem.W.exmOne K (.ref (CA "BadMany")) (.ref (CA "NoWood")) = some false
  y_BadMany_TooFew : PySem.W.exmOne K (.ref (CA "BadMany")) (.ref (CA "TooFew")) = some false
  y_NoWood_BadMany : PySem.W.exmOne K (.ref (CA "NoWood")) (.ref (CA "BadMany")) = some false
  y_NoWood_NoWood : PySem.W.exmOne K (.ref (CA "NoWood")) (.ref (CA "NoWood")) = some true
  y_NoWood_TooFew : PySem.W.exmOne K (.ref (CA "NoWood")) (.ref (CA "TooFew")) = some false
  y_TooFew_BadMany : PySem.W.exmOne K (.ref (CA "TooFew")) (.ref (CA "BadMany")) = some false
  y_TooFew_NoWood : PySem.W.exmOne K (.ref (CA "TooFew")) (.ref (CA "NoWood")) = some false
  y_TooFew_TooFew : PySem.W.exmOne K (.ref (CA "TooFew")) (.ref (CA "TooFew")) = some true
  fl_stock : ∀ C ∈ ["Tray"], ClsF K C "stock"
section
variable {P : Program} {w : World} {K : PySem.W.Frag} {mg : Str → Option Value} {base : Heap} {CA : String → Addr}
theorem sc_p__wall : FnScope ["k"] ["k"] (defScope (topS 0)) := ⟨rfl, rfl, rfl, by decide +kernel, rfl, by decide +kernel, by decide +kernel⟩
theorem w_p__wall (G : Gs K mg CA)  {f : Addr} {fd : FuncData} (F : FunD K "_wall" "_wall" (defArgs (topS 0)) (defBody (topS 0)) (defScope (topS 0)) [] [] f fd) : FnOk P w K mg base (L2.CX P w) 1 f fd ["k"] (spF K CA f_p__wall 1) :=
  have sc := sc_p__wall
  fn_ok (k := 0) (N := ["k"]) (ps := ["k"]) (body := b_p__wall) F sc (fun cdv A outer s H E hr => by
    have hu := hu65 hr
    exact (ss_one (s_while (passes_of rfl) (t_val e_bl) (ss_one s_pass)))) (fun ds h => mkF_of h) (by decide)
theorem sc_p_lowest : FnScope ["over", "under", "big", "small"] ["over", "under"] (defScope (topS 9)) := ⟨rfl, rfl, rfl, by decide +kernel, rfl, by decide +kernel, by decide +kernel⟩
theorem w_p_lowest (G : Gs K mg CA)  {f : Addr} {fd : FuncData} (F : FunD K "lowest" "lowest" (defArgs (topS 9)) (defBody (topS 9)) (defScope (topS 9)) [] [] f fd) : FnOk P w K mg base (L2.CX P w) 1 f fd ["over", "under"] (spF K CA f_p_lowest 2) :=
  have sc := sc_p_lowest
  fn_ok (k := 0) (N := ["over", "under", "big", "small"]) (ps := ["over", "under"]) (body := b_p_lowest) F sc (fun cdv A outer s H E hr => by
    have hu := hu65 hr
    exact (ss_cons (s_set 2 sc.nd (e_loc 0))
    (ss_cons (s_set 3 sc.nd (e_loc 1))
    (ss_cons (s_while (passes_of rfl) (t_cmp hu (e_loc 3) e_int) (ss_one (s_swp 2 3 rfl sc.nd (a_cons (e_loc 3) (a_cons (e_bin (e_loc 2) (e_bin (e_bin (e_loc 2) (e_loc 3)) (e_loc 3))) a_nil)))))
    (ss_one (s_ret (e_tup (a_cons (e_bin (e_loc 0) (e_loc 2)) (a_cons (e_bin (e_loc 1) (e_loc 2)) a_nil))))))))) (fun ds h => mkF_of h) (by decide)
theorem sc_p_falling : FnScope ["many", "steps_down", "found", "k"] ["many", "steps_down"] (defScope (topS 10)) := ⟨rfl, rfl, rfl, by decide +kernel, rfl, by decide +kernel, by decide +kernel⟩
theorem w_p_falling (G : Gs K mg CA)  {f : Addr} {fd : FuncData} (F : FunD K "falling" "falling" (defArgs (topS 10)) (defBody (topS 10)) (defScope (topS 10)) [] [] f fd) : FnOk P w K mg base (L2.CX P w) 1 f fd ["many", "steps_down"] (spF K CA f_p_falling 2) :=
  have sc := sc_p_falling
  fn_ok (k := 0) (N := ["many", "steps_down", "found", "k"]) (ps := ["many", "steps_down"]) (body := b_p_falling) F sc (fun cdv A outer s H E hr => by
    have hu := hu65 hr
    exact (ss_cons (s_set 2 sc.nd e_int)
    (ss_cons (s_for (passes_of rfl) rfl (i_rng1 G.g_range (e_loc 1)) (g_nm 3 sc.nd) (ss_one (s_aug 2 sc.nd (e_blt (cMax rfl) oMax G.g_max (by decide +kernel) (a_cons e_int (a_cons (e_bin (e_loc 0) (e_loc 3)) a_nil))))))
    (ss_one (s_retV 2))))) (fun ds h => mkF_of h) (by decide)
theorem sc_p_look_room : FnScope ["tray", "censers"] ["tray", "censers"] (defScope (topS 11)) := ⟨rfl, rfl, rfl, by decide +kernel, rfl, by decide +kernel, by decide +kernel⟩
theorem w_p_look_room (G : Gs K mg CA) (c_p_Tray_total : MtR P w K mg base CA "Tray" "total" f_p_Tray_total 1) {f : Addr} {fd : FuncData} (F : FunD K "look_room" "look_room" (defArgs (topS 11)) (defBody (topS 11)) (defScope (topS 11)) [] [] f fd) : FnOk P w K mg base (L2.CX P w) 2 f fd ["tray", "censers"] (spF K CA f_p_look_room 2) :=
  have sc := sc_p_look_room
  fn_ok (k := 1) (N := ["tray", "censers"]) (ps := ["tray", "censers"]) (body := b_p_look_room) F sc (fun cdv A outer s H E hr => by
    have hu := hu65 hr
    exact (ss_one (s_if (t_cmp hu (e_rm0 (takes_of rfl rfl rfl rfl) (hr.mono (by decide)) c_p_Tray_total (e_loc 0)) (e_loc 1)) (ss_one (s_raise (m := "") (C := 0) rfl (takes_of rfl rfl rfl rfl) PySem.F.excBase_ValueError G.x_TooFew.i G.x_TooFew.g G.x_TooFew.k G.x_TooFew.r)) ss_nil))) (fun ds h => mkF_of h) (by decide)
theorem sc_p_row_chance : FnScope ["tray", "names", "left", "name", "found"] ["tray", "names"] (defScope (topS 12)) := ⟨rfl, rfl, rfl, by decide +kernel, rfl, by decide +kernel, by decide +kernel⟩
theorem w_p_row_chance (G : Gs K mg CA) (c_p_Tray_packets : MtR P w K mg base CA "Tray" "packets" f_p_Tray_packets 1) (c_p_look_room : FnG P w K mg base CA f_p_look_room 2 "look_room" []) (c_p_Tray_total : MtR P w K mg base CA "Tray" "total" f_p_Tray_total 1) (c_p_falling : FnG P w K mg base CA f_p_falling 1 "falling" []) (c_p_lowest : FnG P w K mg base CA f_p_lowest 1 "lowest" []) {f : Addr} {fd : FuncData} (F : FunD K "row_chance" "row_chance" (defArgs (topS 12)) (defBody (topS 12)) (defScope (topS 12)) [] [] f fd) : FnOk P w K mg base (L2.CX P w) 3 f fd ["tray", "names"] (spF K CA f_p_row_chance 2) :=
  have sc := sc_p_row_chance
  fn_ok (k := 2) (N := ["tray", "names", "left", "name", "found"]) (ps := ["tray", "names"]) (body := b_p_row_chance) F sc (fun cdv A outer s H E hr => by
    have hu := hu65 hr
    exact (ss_cons (s_set 2 sc.nd e_dnw)
    (ss_cons (s_for (passes_of rfl) rfl (i_seq (e_loc 1)) (g_nm 3 sc.nd) (ss_one (s_sto hu (e_rm (takes_of rfl rfl rfl rfl) (hr.mono (by decide)) c_p_Tray_packets (e_loc 0) (a_cons (e_loc 3) a_nil)) (p_loc 2) (e_loc 3))))
    (ss_cons (s_if (t_not (t_chn hu e_int (e_blt cLen oLen G.g_len (by decide +kernel) (a_cons (e_loc 1) a_nil)) (e_gint G.g_GREATEST))) (ss_one (s_raise (m := "") (C := 0) rfl (takes_of rfl rfl rfl rfl) PySem.F.excBase_ValueError G.x_BadMany.i G.x_BadMany.g G.x_BadMany.k G.x_BadMany.r)) ss_nil)
    (ss_cons (s_drop (e_call (takes_of rfl rfl rfl rfl) (hr.mono (by decide)) c_p_look_room (a_cons (e_loc 0) (a_cons (e_blt cLen oLen G.g_len (by decide +kernel) (a_cons (e_loc 1) a_nil)) a_nil))))
    (ss_cons (s_set 4 sc.nd e_int)
    (ss_cons (s_for (passes_of rfl) rfl (i_seq (e_loc 1)) (g_nm 3 sc.nd) (ss_cons (s_aug 4 sc.nd (e_idx hu (e_loc 2) (e_loc 3)))
    (ss_one (s_sto hu (e_blt (cMax rfl) oMax G.g_max (by decide +kernel) (a_cons e_int (a_cons (e_bin (e_idx hu (e_loc 2) (e_loc 3)) e_int) a_nil))) (p_loc 2) (e_loc 3)))))
    (ss_one (s_ret (e_call (takes_of rfl rfl rfl rfl) (hr.mono (by decide)) c_p_lowest (a_cons (e_loc 4) (a_cons (e_call (takes_of rfl rfl rfl rfl) (hr.mono (by decide)) c_p_falling (a_cons (e_rm0 (takes_of rfl rfl rfl rfl) (hr.mono (by decide)) c_p_Tray_total (e_loc 0)) (a_cons (e_blt cLen oLen G.g_len (by decide +kernel) (a_cons (e_loc 1) a_nil)) a_nil))) a_nil)))))))))))) (fun ds h => mkF_of h) (by decide)
theorem sc_p_good_name : FnScope ["name", "sign"] ["name"] (defScope (topS 15)) := ⟨rfl, rfl, rfl, by decide +kernel, rfl, by decide +kernel, by decide +kernel⟩
theorem w_p_good_name (G : Gs K mg CA)  {f : Addr} {fd : FuncData} (F : FunD K "good_name" "good_name" (defArgs (topS 15)) (defBody (topS 15)) (defScope (topS 15)) [] [] f fd) : FnOk P w K mg base (L2.CX P w) 1 f fd ["name"] (spF K CA f_p_good_name 1) :=
  have sc := sc_p_good_name
  fn_ok (k := 0) (N := ["name", "sign"]) (ps := ["name"]) (body := b_p_good_name) F sc (fun cdv A outer s H E hr => by
    have hu := hu65 hr
    exact (ss_one (s_ret (eb_and (e_chn hu e_int (e_blt cLen oLen G.g_len (by decide +kernel) (a_cons (e_loc 0) a_nil)) e_int) (eb_one (eb_val (e_blt (cr_all rfl) oAll G.g_all (by decide +kernel) (a_cons (e_lc (own := [("sign", 1)]) rfl sc.nd (i_seq (e_loc 0)) (blkOk_by (N := ["name", "sign"]) (sc := (defScope (topS 15))) (by decide +kernel)) (fun _ _ _ _ _ => (g_nm 1 sc.nd)) (by decide) (fun _ _ _ _ _ => ts_nil) (fun _ _ _ _ _ => (e_cmp hu (e_loc 1) (e_gstr G.g_LETTERS)))) a_nil)))))))) (fun ds h => mkF_of h) (by decide)
theorem sc_p_Tray___init__ : FnScope ["self", "woods", "name", "packets"] ["self", "woods"] (defScope (inClass (topS 16) 0)) := ⟨rfl, rfl, rfl, by decide +kernel, rfl, by decide +kernel, by decide +kernel⟩
theorem w_p_Tray___init__ (G : Gs K mg CA) (c_p_good_name : FnG P w K mg base CA f_p_good_name 1 "good_name" []) {f : Addr} {fd : FuncData} (F : FunD K "__init__" "Tray.__init__" (defArgs (inClass (topS 16) 0)) (defBody (inClass (topS 16) 0)) (defScope (inClass (topS 16) 0)) [] [] f fd) : FnOk P w K mg base (L2.CX P w) 2 f fd ["self", "woods"] (spG K CA "Tray" f_p_Tray___init__ 2) :=
  have sc := sc_p_Tray___init__
  fn_okG (k := 1) (N := ["self", "woods", "name", "packets"]) (ps := ["self", "woods"]) (body := b_p_Tray___init__) F sc (fun cdv A outer s H E hr => by
    have hu := hu65 hr
    exact (ss_cons (s_if (t_not (t_chn hu e_int (e_blt cLen oLen G.g_len (by decide +kernel) (a_cons (e_loc 1) a_nil)) e_int)) (ss_one (s_raise (m := "") (C := 0) rfl (takes_of rfl rfl rfl rfl) PySem.F.excBase_ValueError G.x_BadTray.i G.x_BadTray.g G.x_BadTray.k G.x_BadTray.r)) ss_nil)
    (ss_cons (s_stf G.fl_stock e_dnw (p_loc 0))
    (ss_one (s_for (passes_of rfl) rfl (i_seq (e_loc 1)) (g_tup rfl (tgLen_cons (tgLen_cons tgLen_nil)) (gs_cons (g_nm 2 sc.nd) (gs_cons (g_nm 3 sc.nd) gs_nil))) (ss_cons (s_if (t_pw (tw_or (t_not (t_val (e_call (takes_of rfl rfl rfl rfl) (hr.mono (by decide)) c_p_good_name (a_cons (e_loc 2) a_nil)))) (tw_or (t_cmp hu (e_loc 2) (e_fld G.fl_stock (e_loc 0))) (tw_or1 (t_not (t_chn hu e_int (e_loc 3) e_int)))))) (ss_one (s_raise (m := "") (C := 0) rfl (takes_of rfl rfl rfl rfl) PySem.F.excBase_ValueError G.x_BadTray.i G.x_BadTray.g G.x_BadTray.k G.x_BadTray.r)) ss_nil)
    (ss_one (s_sto hu (e_loc 3) (p_fld G.fl_stock (p_loc 0)) (e_loc 2))))))))) (fun t fs ds h => mkG_of h) (by decide)
theorem sc_p_Tray_all_woods_v2 : FnScope ["self"] ["self"] (defScope (inClass (topS 16) 1)) := ⟨rfl, rfl, rfl, by decide +kernel, rfl, by decide +kernel, by decide +kernel⟩
theorem w_p_Tray_all_woods_v2 (G : Gs K mg CA) (c_p__wall : FnG P w K mg base CA f_p__wall 1 "_wall" []) {f : Addr} {fd : FuncData} (F : FunD K "all_woods" "Tray.all_woods" (defArgs (inClass (topS 16) 1)) (defBody (inClass (topS 16) 1)) (defScope (inClass (topS 16) 1)) [] [] f fd) : FnOk P w K mg base (L2.CX P w) 2 f fd ["self"] (spF K CA f_p_Tray_all_woods_v2 1) :=
  have sc := sc_p_Tray_all_woods_v2
  fn_ok (k := 1) (N := ["self"]) (ps := ["self"]) (body := b_p_Tray_all_woods_v2) F sc (fun cdv A outer s H E hr => by
    have hu := hu65 hr
    exact (ss_one (s_drop (e_call (takes_of rfl rfl rfl rfl) (hr.mono (by decide)) c_p__wall (a_cons e_int a_nil))))) (fun ds h => mkF_of h) (by decide)
theorem sc_p_Tray_packets : FnScope ["self", "name"] ["self", "name"] (defScope (inClass (topS 16) 2)) := ⟨rfl, rfl, rfl, by decide +kernel, rfl, by decide +kernel, by decide +kernel⟩
theorem w_p_Tray_packets (G : Gs K mg CA)  {f : Addr} {fd : FuncData} (F : FunD K "packets" "Tray.packets" (defArgs (inClass (topS 16) 2)) (defBody (inClass (topS 16) 2)) (defScope (inClass (topS 16) 2)) [] [] f fd) : FnOk P w K mg base (L2.CX P w) 1 f fd ["self", "name"] (spF K CA f_p_Tray_packets 2) :=
  have sc := sc_p_Tray_packets
  fn_ok (k := 0) (N := ["self", "name"]) (ps := ["self", "name"]) (body := b_p_Tray_packets) F sc (fun cdv A outer s H E hr => by
    have hu := hu65 hr
    exact (ss_cons (s_if (t_cmp hu (e_loc 1) (e_fld G.fl_stock (e_loc 0))) (ss_one (s_raise (m := "") (C := 0) rfl (takes_of rfl rfl rfl rfl) PySem.F.excBase_ValueError G.x_NoWood.i G.x_NoWood.g G.x_NoWood.k G.x_NoWood.r)) ss_nil)
    (ss_one (s_ret (e_idx hu (e_fld G.fl_stock (e_loc 0)) (e_loc 1)))))) (fun ds h => mkF_of h) (by decide)
theorem sc_p_Tray_total : FnScope ["self"] ["self"] (defScope (inClass (topS 16) 3)) := ⟨rfl, rfl, rfl, by decide +kernel, rfl, by decide +kernel, by decide +kernel⟩
theorem w_p_Tray_total (G : Gs K mg CA)  {f : Addr} {fd : FuncData} (F : FunD K "total" "Tray.total" (defArgs (inClass (topS 16) 3)) (defBody (inClass (topS 16) 3)) (defScope (inClass (topS 16) 3)) [] [] f fd) : FnOk P w K mg base (L2.CX P w) 1 f fd ["self"] (spF K CA f_p_Tray_total 1) :=
  have sc := sc_p_Tray_total
  fn_ok (k := 0) (N := ["self"]) (ps := ["self"]) (body := b_p_Tray_total) F sc (fun cdv A outer s H E hr => by
    have hu := hu65 hr
    exact (ss_one (s_ret (e_svl rfl G.g_sum (e_fld G.fl_stock (e_loc 0)))))) (fun ds h => mkF_of h) (by decide)
theorem sc_p_Tray_less_v3 : FnScope ["self", "name"] ["self", "name"] (defScope (inClass (topS 16) 4)) := ⟨rfl, rfl, rfl, by decide +kernel, rfl, by decide +kernel, by decide +kernel⟩
theorem w_p_Tray_less_v3 (G : Gs K mg CA) (c_p__wall : FnG P w K mg base CA f_p__wall 1 "_wall" []) {f : Addr} {fd : FuncData} (F : FunD K "less" "Tray.less" (defArgs (inClass (topS 16) 4)) (defBody (inClass (topS 16) 4)) (defScope (inClass (topS 16) 4)) [] [] f fd) : FnOk P w K mg base (L2.CX P w) 2 f fd ["self", "name"] (spF K CA f_p_Tray_less_v3 2) :=
  have sc := sc_p_Tray_less_v3
  fn_ok (k := 1) (N := ["self", "name"]) (ps := ["self", "name"]) (body := b_p_Tray_less_v3) F sc (fun cdv A outer s H E hr => by
    have hu := hu65 hr
    exact (ss_one (s_drop (e_call (takes_of rfl rfl rfl rfl) (hr.mono (by decide)) c_p__wall (a_cons e_int a_nil))))) (fun ds h => mkF_of h) (by decide)
theorem sc_l_draw : FnScope ["_law_cell_here", "_law_limits", "_law_rest", "_law_seed", "_law_row", "_law_limit"] ["_law_cell_here", "_law_limits"] (defScope (topS 18)) := ⟨rfl, rfl, rfl, by decide +kernel, rfl, by decide +kernel, by decide +kernel⟩
theorem w_l_draw (G : Gs K mg CA)  {f : Addr} {fd : FuncData} (F : FunD K "_law_draw" "_law_draw" (defArgs (topS 18)) (defBody (topS 18)) (defScope (topS 18)) [] [] f fd) : FnOk P w K mg base (L2.CX P w) 1 f fd ["_law_cell_here", "_law_limits"] (spF K CA f_l_draw 2) :=
  have sc := sc_l_draw
  fn_ok (k := 0) (N := ["_law_cell_here", "_law_limits", "_law_rest", "_law_seed", "_law_row", "_law_limit"]) (ps := ["_law_cell_here", "_law_limits"]) (body := b_l_draw) F sc (fun cdv A outer s H E hr => by
    have hu := hu65 hr
    exact (ss_cons (s_set 2 sc.nd (e_ite (t_cmp hu (e_loc 0) (e_bin e_int e_int)) (e_loc 0) e_int))
    (ss_cons (s_set 3 sc.nd (e_bin (e_bin (e_bin (e_bin (e_loc 0) e_int) e_int) e_int) e_int))
    (ss_cons (s_set 4 sc.nd (e_lst a_nil))
    (ss_cons (s_for (passes_of rfl) rfl (i_seq (e_loc 1)) (g_nm 5 sc.nd) (ss_cons (s_set 3 sc.nd (e_bin (e_bin (e_bin (e_bin (e_bin (e_loc 3) (e_loc 3)) e_int) (e_bin (e_loc 3) e_int)) e_int) e_int))
    (ss_cons (s_app 4 (e_ite (t_cmp hu (e_loc 2) e_int) (e_bin (e_loc 2) (e_loc 5)) (e_bin (e_bin (e_bin (e_loc 3) e_int) (e_bin (e_bin (e_loc 3) e_int) e_int)) (e_loc 5))))
    (ss_one (s_set 2 sc.nd (e_bin (e_loc 2) (e_loc 5)))))))
    (ss_one (s_retV 4))))))) (fun ds h => mkF_of h) (by decide)
theorem sc_l_cell : FnScope ["_law_script", "_law_k"] ["_law_script", "_law_k"] (defScope (topS 19)) := ⟨rfl, rfl, rfl, by decide +kernel, rfl, by decide +kernel, by decide +kernel⟩
theorem w_l_cell (G : Gs K mg CA)  {f : Addr} {fd : FuncData} (F : FunD K "_law_cell" "_law_cell" (defArgs (topS 19)) (defBody (topS 19)) (defScope (topS 19)) [] [] f fd) : FnOk P w K mg base (L2.CX P w) 1 f fd ["_law_script", "_law_k"] (spF K CA f_l_cell 2) :=
  have sc := sc_l_cell
  fn_ok (k := 0) (N := ["_law_script", "_law_k"]) (ps := ["_law_script", "_law_k"]) (body := b_l_cell) F sc (fun cdv A outer s H E hr => by
    have hu := hu65 hr
    exact (ss_cons (s_if (t_cmp hu (e_loc 1) (e_blt cLen oLen G.g_len (by decide +kernel) (a_cons (e_loc 0) a_nil))) (ss_one (s_ret (e_idx hu (e_loc 0) (e_loc 1)))) ss_nil)
    (ss_one (s_ret (e_bin (e_bin (e_bin (e_bin (e_blt (cr_sum rfl) oSum G.g_sum (by decide +kernel) (a_cons (e_loc 0) a_nil)) e_int) e_int) (e_bin (e_blt cLen oLen G.g_len (by decide +kernel) (a_cons (e_loc 0) a_nil)) e_int)) (e_bin (e_loc 1) e_int)))))) (fun ds h => mkF_of h) (by decide)
theorem sc_l_many : FnScope ["_law_script", "_law_few"] ["_law_script", "_law_few"] (defScope (topS 20)) := ⟨rfl, rfl, rfl, by decide +kernel, rfl, by decide +kernel, by decide +kernel⟩
theorem w_l_many (G : Gs K mg CA)  {f : Addr} {fd : FuncData} (F : FunD K "_law_many" "_law_many" (defArgs (topS 20)) (defBody (topS 20)) (defScope (topS 20)) [] [] f fd) : FnOk P w K mg base (L2.CX P w) 1 f fd ["_law_script", "_law_few"] (spF K CA f_l_many 2) :=
  have sc := sc_l_many
  fn_ok (k := 0) (N := ["_law_script", "_law_few"]) (ps := ["_law_script", "_law_few"]) (body := b_l_many) F sc (fun cdv A outer s H E hr => by
    have hu := hu65 hr
    exact (ss_one (s_ret (e_blt (cMax rfl) oMax G.g_max (by decide +kernel) (a_cons (e_loc 1) (a_cons (e_blt (cMin rfl) oMin G.g_min (by decide +kernel) (a_cons (e_blt cLen oLen G.g_len (by decide +kernel) (a_cons (e_loc 0) a_nil)) (a_cons e_int a_nil))) a_nil)))))) (fun ds h => mkF_of h) (by decide)
theorem sc_l_num : FnScope ["_law_found"] ["_law_found"] (defScope (topS 21)) := ⟨rfl, rfl, rfl, by decide +kernel, rfl, by decide +kernel, by decide +kernel⟩
theorem w_l_num (G : Gs K mg CA)  {f : Addr} {fd : FuncData} (F : FunD K "_law_num" "_law_num" (defArgs (topS 21)) (defBody (topS 21)) (defScope (topS 21)) [] [] f fd) : FnOk P w K mg base (L2.CX P w) 1 f fd ["_law_found"] (spF K CA f_l_num 1) :=
  have sc := sc_l_num
  fn_ok (k := 0) (N := ["_law_found"]) (ps := ["_law_found"]) (body := b_l_num) F sc (fun cdv A outer s H E hr => by
    have hu := hu65 hr
    exact (ss_one (s_ret (eb_and (eb_val (e_isi (T := "int") G.g_isinstance G.g_int (by decide +kernel) (e_loc 0))) (eb_one (eb_not (eb_val (e_isi (T := "bool") G.g_isinstance G.g_bool (by decide +kernel) (e_loc 0))))))))) (fun ds h => mkF_of h) (by decide)
theorem sc_l_split : FnScope ["_law_cell_here", "_law_parts", "_law_wide", "_law_side", "_law_size", "_law_found", "_law_big", "_law_k"] ["_law_cell_here", "_law_parts", "_law_wide"] (defScope (topS 22)) := ⟨rfl, rfl, rfl, by decide +kernel, rfl, by decide +kernel, by decide +kernel⟩
theorem w_l_split (G : Gs K mg CA)  {f : Addr} {fd : FuncData} (F : FunD K "_law_split" "_law_split" (defArgs (topS 22)) (defBody (topS 22)) (defScope (topS 22)) [.int 0] [] f fd) : FnOk P w K mg base (L2.CX P w) 1 f fd ["_law_cell_here", "_law_parts", "_law_wide"] (spF K CA f_l_split 3) :=
  have sc := sc_l_split
  fn_ok (k := 0) (N := ["_law_cell_here", "_law_parts", "_law_wide", "_law_side", "_law_size", "_law_found", "_law_big", "_law_k"]) (ps := ["_law_cell_here", "_law_parts", "_law_wide"]) (body := b_l_split) F sc (fun cdv A outer s H E hr => by
    have hu := hu65 hr
    exact (ss_cons (s_set 3 sc.nd (e_bin (e_bin e_int e_int) (e_bin e_int e_int)))
    (ss_cons (s_set 4 sc.nd (e_idx hu (e_lst (a_cons (e_bin e_int e_int) (a_cons (e_loc 3) (a_cons (e_bin (e_bin (e_bin (e_loc 3) (e_loc 3)) (e_loc 3)) (e_loc 3)) a_nil)))) (e_loc 2)))
    (ss_cons (s_set 5 sc.nd (e_lst a_nil))
    (ss_cons (s_set 6 sc.nd (e_cmp hu (e_loc 0) (e_bin e_int e_int)))
    (ss_cons (s_for (passes_of rfl) rfl (i_rng1 G.g_range (e_loc 1)) (g_nm 7 sc.nd) (ss_one (s_if (t_val (e_loc 6)) (ss_cons (s_app 5 (e_bin (e_bin e_int e_int) (e_bin (e_loc 0) (e_loc 4))))
    (ss_one (s_set 0 sc.nd (e_bin (e_loc 0) (e_loc 4))))) (ss_one (s_app 5 (e_bin (e_bin (e_loc 0) (e_bin (e_bin e_int (e_loc 7)) e_int)) (e_bin e_int (e_loc 7))))))))
    (ss_one (s_retV 5)))))))) (fun ds h => mkF_of h) (by decide)
theorem sc_l_names : FnScope ["_law_cell_here", "_law_count", "_law_letters", "_law_j", "_law_row", "_law_found", "_law_size", "_law_signs", "_law_k", "_law_sign"] ["_law_cell_here", "_law_count"] (defScope (topS 23)) := ⟨rfl, rfl, rfl, by decide +kernel, rfl, by decide +kernel, by decide +kernel⟩
theorem w_l_names (G : Gs K mg CA) (c_l_draw : FnG P w K mg base CA f_l_draw 1 "_law_draw" []) {f : Addr} {fd : FuncData} (F : FunD K "_law_names" "_law_names" (defArgs (topS 23)) (defBody (topS 23)) (defScope (topS 23)) [] [] f fd) : FnOk P w K mg base (L2.CX P w) 2 f fd ["_law_cell_here", "_law_count"] (spF K CA f_l_names 2) :=
  have sc := sc_l_names
  fn_ok (k := 1) (N := ["_law_cell_here", "_law_count", "_law_letters", "_law_j", "_law_row", "_law_found", "_law_size", "_law_signs", "_law_k", "_law_sign"]) (ps := ["_law_cell_here", "_law_count"]) (body := b_l_names) F sc (fun cdv A outer s H E hr => by
    have hu := hu65 hr
    exact (ss_cons (s_set 2 sc.nd e_str)
    (ss_cons (s_set 4 sc.nd (e_call (takes_of rfl rfl rfl rfl) (hr.mono (by decide)) c_l_draw (a_cons (e_loc 0) (a_cons (e_bin (e_bin (e_lst (a_cons e_int (a_cons e_int (a_cons e_int (a_cons e_int a_nil))))) (e_lc (own := [("_law_j", 3)]) rfl sc.nd (i_rng1 G.g_range (e_loc 1)) (blkOk_by (N := ["_law_cell_here", "_law_count", "_law_letters", "_law_j", "_law_row", "_law_found", "_law_size", "_law_signs", "_law_k", "_law_sign"]) (sc := (defScope (topS 23))) (by decide +kernel)) (fun _ _ _ _ _ => (g_nm 3 sc.nd)) (by decide) (fun _ _ _ _ _ => ts_nil) (fun _ _ _ _ _ => e_int))) (e_lc (own := [("_law_j", 3)]) rfl sc.nd (i_rng1 G.g_range (e_bin e_int (e_loc 1))) (blkOk_by (N := ["_law_cell_here", "_law_count", "_law_letters", "_law_j", "_law_row", "_law_found", "_law_size", "_law_signs", "_law_k", "_law_sign"]) (sc := (defScope (topS 23))) (by decide +kernel)) (fun _ _ _ _ _ => (g_nm 3 sc.nd)) (by decide) (fun _ _ _ _ _ => ts_nil) (fun _ _ _ _ _ => e_int))) a_nil))))
    (ss_cons (s_set 5 sc.nd (e_lst a_nil))
    (ss_cons (s_for (passes_of rfl) rfl (i_rng1 G.g_range (e_loc 1)) (g_nm 3 sc.nd) (ss_cons (s_set 6 sc.nd (e_bin (e_bin (e_idx hu (e_loc 4) e_int) e_int) (e_bin (e_idx hu (e_loc 4) (e_bin e_int (e_loc 3))) (e_bin e_int (e_idx hu (e_loc 4) e_int)))))
    (ss_cons (s_setlc (own := [("_law_k", 8)]) rfl sc.nd (i_rng1 G.g_range (e_loc 6)) (blkOk_by (N := ["_law_cell_here", "_law_count", "_law_letters", "_law_j", "_law_row", "_law_found", "_law_size", "_law_signs", "_law_k", "_law_sign"]) (sc := (defScope (topS 23))) (by decide +kernel)) (fun _ _ _ _ _ => (g_nm 8 sc.nd)) (by decide) (fun _ _ _ _ _ => ts_nil) (fun _ _ _ _ _ => (e_ite (t_cmp hu (e_idx hu (e_loc 4) e_int) e_int) (e_idx hu (e_loc 4) (e_bin (e_bin (e_bin e_int (e_loc 1)) (e_bin e_int (e_loc 3))) (e_loc 8))) (e_idx hu (e_loc 4) e_int))) (sw_true rfl rfl rfl (by decide +kernel)))
    (ss_cons (s_sto hu (e_bin (e_idx hu (e_loc 4) e_int) (e_bin e_int (e_loc 3))) (p_loc 7) (e_idx hu (e_loc 4) e_int))
    (ss_one (s_app 5 (e_join e_str (e_lc (own := [("_law_sign", 9)]) rfl sc.nd (i_seq (e_loc 7)) (blkOk_by (N := ["_law_cell_here", "_law_count", "_law_letters", "_law_j", "_law_row", "_law_found", "_law_size", "_law_signs", "_law_k", "_law_sign"]) (sc := (defScope (topS 23))) (by decide +kernel)) (fun _ _ _ _ _ => (g_nm 9 sc.nd)) (by decide) (fun _ _ _ _ _ => ts_nil) (fun _ _ _ _ _ => (e_idx hu (e_loc 2) (e_bin (e_loc 9) e_int)))))))))))
    (ss_one (s_retV 5))))))) (fun ds h => mkF_of h) (by decide)
theorem sc_l_woods : FnScope ["_law_cell_here", "_law_first", "_law_second", "_law_row", "_law_names_here", "_law_cap", "_law_k"] ["_law_cell_here"] (defScope (topS 24)) := ⟨rfl, rfl, rfl, by decide +kernel, rfl, by decide +kernel, by decide +kernel⟩
theorem w_l_woods (G : Gs K mg CA) (c_l_split_1 : FnG P w K mg base CA f_l_split 1 "_law_split" [.int 0]) (c_l_draw : FnG P w K mg base CA f_l_draw 1 "_law_draw" []) (c_l_names : FnG P w K mg base CA f_l_names 2 "_law_names" []) {f : Addr} {fd : FuncData} (F : FunD K "_law_woods" "_law_woods" (defArgs (topS 24)) (defBody (topS 24)) (defScope (topS 24)) [] [] f fd) : FnOk P w K mg base (L2.CX P w) 3 f fd ["_law_cell_here"] (spF K CA f_l_woods 1) :=
  have sc := sc_l_woods
  fn_ok (k := 2) (N := ["_law_cell_here", "_law_first", "_law_second", "_law_row", "_law_names_here", "_law_cap", "_law_k"]) (ps := ["_law_cell_here"]) (body := b_l_woods) F sc (fun cdv A outer s H E hr => by
    have hu := hu65 hr
    exact (ss_cons (s_asg (e_call (takes_of rfl rfl rfl rfl) (hr.mono (by decide)) c_l_split_1 (a_cons (e_loc 0) (a_cons e_int a_nil))) (g_tup rfl (tgLen_cons (tgLen_cons tgLen_nil)) (gs_cons (g_nm 1 sc.nd) (gs_cons (g_nm 2 sc.nd) gs_nil))))
    (ss_cons (s_set 3 sc.nd (e_call (takes_of rfl rfl rfl rfl) (hr.mono (by decide)) c_l_draw (a_cons (e_loc 1) (a_cons (e_bin (e_lst (a_cons e_int (a_cons e_int a_nil))) (e_lc (own := [("_law_k", 6)]) rfl sc.nd (i_rng1 G.g_range e_int) (blkOk_by (N := ["_law_cell_here", "_law_first", "_law_second", "_law_row", "_law_names_here", "_law_cap", "_law_k"]) (sc := (defScope (topS 24))) (by decide +kernel)) (fun _ _ _ _ _ => (g_nm 6 sc.nd)) (by decide) (fun _ _ _ _ _ => ts_nil) (fun _ _ _ _ _ => e_int))) a_nil))))
    (ss_cons (s_set 4 sc.nd (e_call (takes_of rfl rfl rfl rfl) (hr.mono (by decide)) c_l_names (a_cons (e_loc 2) (a_cons e_int a_nil))))
    (ss_cons (s_set 5 sc.nd (e_idx hu (e_lst (a_cons e_int (a_cons e_int (a_cons e_int a_nil)))) (e_idx hu (e_loc 3) e_int)))
    (ss_one (s_ret (e_tup (a_cons (e_lc (own := [("_law_k", 6)]) rfl sc.nd (i_rng1 G.g_range (e_bin (e_idx hu (e_loc 3) e_int) e_int)) (blkOk_by (N := ["_law_cell_here", "_law_first", "_law_second", "_law_row", "_law_names_here", "_law_cap", "_law_k"]) (sc := (defScope (topS 24))) (by decide +kernel)) (fun _ _ _ _ _ => (g_nm 6 sc.nd)) (by decide) (fun _ _ _ _ _ => ts_nil) (fun _ _ _ _ _ => (e_tup (a_cons (e_idx hu (e_loc 4) (e_loc 6)) (a_cons (e_bin (e_idx hu (e_loc 3) (e_bin e_int (e_loc 6))) (e_loc 5)) a_nil))))) (a_cons (e_idx hu (e_loc 4) e_int) a_nil)))))))))) (fun ds h => mkF_of h) (by decide)
theorem sc_l_gcd : FnScope ["_law_one", "_law_other"] ["_law_one", "_law_other"] (defScope (topS 25)) := ⟨rfl, rfl, rfl, by decide +kernel, rfl, by decide +kernel, by decide +kernel⟩
theorem w_l_gcd (G : Gs K mg CA)  {f : Addr} {fd : FuncData} (F : FunD K "_law_gcd" "_law_gcd" (defArgs (topS 25)) (defBody (topS 25)) (defScope (topS 25)) [] [] f fd) : FnOk P w K mg base (L2.CX P w) 1 f fd ["_law_one", "_law_other"] (spF K CA f_l_gcd 2) :=
  have sc := sc_l_gcd
  fn_ok (k := 0) (N := ["_law_one", "_law_other"]) (ps := ["_law_one", "_law_other"]) (body := b_l_gcd) F sc (fun cdv A outer s H E hr => by
    have hu := hu65 hr
    exact (ss_cons (s_while (passes_of rfl) (t_cmp hu (e_loc 1) e_int) (ss_one (s_swp 0 1 rfl sc.nd (a_cons (e_loc 1) (a_cons (e_bin (e_loc 0) (e_loc 1)) a_nil)))))
    (ss_one (s_retV 0)))) (fun ds h => mkF_of h) (by decide)
theorem sc_l_fractions : FnScope ["_law_found", "_law_one"] ["_law_found"] (defScope (topS 26)) := ⟨rfl, rfl, rfl, by decide +kernel, rfl, by decide +kernel, by decide +kernel⟩
theorem w_l_fractions (G : Gs K mg CA) (c_l_num : FnG P w K mg base CA f_l_num 1 "_law_num" []) (c_l_gcd : FnG P w K mg base CA f_l_gcd 1 "_law_gcd" []) {f : Addr} {fd : FuncData} (F : FunD K "_law_fractions" "_law_fractions" (defArgs (topS 26)) (defBody (topS 26)) (defScope (topS 26)) [] [] f fd) : FnOk P w K mg base (L2.CX P w) 2 f fd ["_law_found"] (spF K CA f_l_fractions 1) :=
  have sc := sc_l_fractions
  fn_ok (k := 1) (N := ["_law_found", "_law_one"]) (ps := ["_law_found"]) (body := b_l_fractions) F sc (fun cdv A outer s H E hr => by
    have hu := hu65 hr
    exact (ss_cons (s_for (passes_of rfl) rfl (i_seq (e_loc 0)) (g_nm 1 sc.nd) (ss_cons (s_if (t_pw (tw_or (t_not (t_val (e_isi (T := "tuple") G.g_isinstance G.g_tuple (by decide +kernel) (e_loc 1)))) (tw_or (t_cmp hu (e_blt cLen oLen G.g_len (by decide +kernel) (a_cons (e_loc 1) a_nil)) e_int) (tw_or (t_not (t_val (e_call (takes_of rfl rfl rfl rfl) (hr.mono (by decide)) c_l_num (a_cons (e_idx hu (e_loc 1) e_int) a_nil)))) (tw_or1 (t_not (t_val (e_call (takes_of rfl rfl rfl rfl) (hr.mono (by decide)) c_l_num (a_cons (e_idx hu (e_loc 1) e_int) a_nil))))))))) (ss_one (s_ret e_bl)) ss_nil)
    (ss_one (s_if (t_pw (tw_or (t_cmp hu (e_idx hu (e_loc 1) e_int) e_int) (tw_or (t_cmp hu (e_idx hu (e_loc 1) e_int) e_int) (tw_or1 (t_cmp hu (e_call (takes_of rfl rfl rfl rfl) (hr.mono (by decide)) c_l_gcd (a_cons (e_idx hu (e_loc 1) e_int) (a_cons (e_idx hu (e_loc 1) e_int) a_nil))) e_int))))) (ss_one (s_ret e_bl)) ss_nil))))
    (ss_one (s_ret e_bl)))) (fun ds h => mkF_of h) (by decide)
theorem sc_l_fraction : FnScope ["_law_found", "_law_over", "_law_under"] ["_law_found", "_law_over", "_law_under"] (defScope (topS 27)) := ⟨rfl, rfl, rfl, by decide +kernel, rfl, by decide +kernel, by decide +kernel⟩
theorem w_l_fraction (G : Gs K mg CA) (c_l_fractions : FnG P w K mg base CA f_l_fractions 2 "_law_fractions" []) {f : Addr} {fd : FuncData} (F : FunD K "_law_fraction" "_law_fraction" (defArgs (topS 27)) (defBody (topS 27)) (defScope (topS 27)) [] [] f fd) : FnOk P w K mg base (L2.CX P w) 3 f fd ["_law_found", "_law_over", "_law_under"] (spF K CA f_l_fraction 3) :=
  have sc := sc_l_fraction
  fn_ok (k := 2) (N := ["_law_found", "_law_over", "_law_under"]) (ps := ["_law_found", "_law_over", "_law_under"]) (body := b_l_fraction) F sc (fun cdv A outer s H E hr => by
    have hu := hu65 hr
    exact (ss_cons (s_if (t_pw (tw_or (t_not (t_val (e_isi (T := "tuple") G.g_isinstance G.g_tuple (by decide +kernel) (e_loc 0)))) (tw_or1 (t_not (t_val (e_call (takes_of rfl rfl rfl rfl) (hr.mono (by decide)) c_l_fractions (a_cons (e_lst (a_cons (e_loc 0) a_nil)) a_nil))))))) (ss_one (s_ret e_bl)) ss_nil)
    (ss_one (s_ret (e_cmp hu (e_bin (e_idx hu (e_loc 0) e_int) (e_loc 2)) (e_bin (e_loc 1) (e_idx hu (e_loc 0) e_int))))))) (fun ds h => mkF_of h) (by decide)
theorem sc_l_down : FnScope ["_law_top", "_law_steps_down", "_law_found", "_law_k"] ["_law_top", "_law_steps_down"] (defScope (topS 28)) := ⟨rfl, rfl, rfl, by decide +kernel, rfl, by decide +kernel, by decide +kernel⟩
theorem w_l_down (G : Gs K mg CA)  {f : Addr} {fd : FuncData} (F : FunD K "_law_down" "_law_down" (defArgs (topS 28)) (defBody (topS 28)) (defScope (topS 28)) [] [] f fd) : FnOk P w K mg base (L2.CX P w) 1 f fd ["_law_top", "_law_steps_down"] (spF K CA f_l_down 2) :=
  have sc := sc_l_down
  fn_ok (k := 0) (N := ["_law_top", "_law_steps_down", "_law_found", "_law_k"]) (ps := ["_law_top", "_law_steps_down"]) (body := b_l_down) F sc (fun cdv A outer s H E hr => by
    have hu := hu65 hr
    exact (ss_cons (s_set 2 sc.nd e_int)
    (ss_cons (s_for (passes_of rfl) rfl (i_rng1 G.g_range (e_loc 1)) (g_nm 3 sc.nd) (ss_one (s_set 2 sc.nd (e_bin (e_loc 2) (e_blt (cMax rfl) oMax G.g_max (by decide +kernel) (a_cons e_int (a_cons (e_bin (e_loc 0) (e_loc 3)) a_nil)))))))
    (ss_one (s_retV 2))))) (fun ds h => mkF_of h) (by decide)
theorem sc_l_total : FnScope ["_law_left", "_law_name", "_law_packets"] ["_law_left"] (defScope (topS 29)) := ⟨rfl, rfl, rfl, by decide +kernel, rfl, by decide +kernel, by decide +kernel⟩
theorem w_l_total (G : Gs K mg CA)  {f : Addr} {fd : FuncData} (F : FunD K "_law_total" "_law_total" (defArgs (topS 29)) (defBody (topS 29)) (defScope (topS 29)) [] [] f fd) : FnOk P w K mg base (L2.CX P w) 1 f fd ["_law_left"] (spF K CA f_l_total 1) :=
  have sc := sc_l_total
  fn_ok (k := 0) (N := ["_law_left", "_law_name", "_law_packets"]) (ps := ["_law_left"]) (body := b_l_total) F sc (fun cdv A outer s H E hr => by
    have hu := hu65 hr
    exact (ss_one (s_ret (e_blt (cr_sum rfl) oSum G.g_sum (by decide +kernel) (a_cons (e_lc (own := [("_law_name", 1), ("_law_packets", 2)]) rfl sc.nd (i_seq (e_loc 0)) (blkOk_by (N := ["_law_left", "_law_name", "_law_packets"]) (sc := (defScope (topS 29))) (by decide +kernel)) (fun _ _ _ _ _ => (g_tup rfl (tgLen_cons (tgLen_cons tgLen_nil)) (gs_cons (g_nm 1 sc.nd) (gs_cons (g_nm 2 sc.nd) gs_nil)))) (by decide) (fun _ _ _ _ _ => ts_nil) (fun _ _ _ _ _ => (e_loc 2))) a_nil))))) (fun ds h => mkF_of h) (by decide)
theorem sc_l_tried_v10 : FnScope ["_law_tray", "_law_names_here"] ["_law_tray", "_law_names_here"] (defScope (topS 30)) := ⟨rfl, rfl, rfl, by decide +kernel, rfl, by decide +kernel, by decide +kernel⟩
theorem w_l_tried_v10 (G : Gs K mg CA) (c_p_row_chance : FnG P w K mg base CA f_p_row_chance 3 "row_chance" []) {f : Addr} {fd : FuncData} (F : FunD K "_law_tried" "_law_tried" (defArgs (topS 30)) (defBody (topS 30)) (defScope (topS 30)) [] [] f fd) : FnOk P w K mg base (L2.CX P w) 4 f fd ["_law_tray", "_law_names_here"] (spF K CA f_l_tried_v10 2) :=
  have sc := sc_l_tried_v10
  fn_ok (k := 3) (N := ["_law_tray", "_law_names_here"]) (ps := ["_law_tray", "_law_names_here"]) (body := b_l_tried_v10) F sc (fun cdv A outer s H E hr => by
    have hu := hu65 hr
    exact (ss_one (s_try (takes_of rfl rfl rfl rfl) (fun _ _ _ tkB hpB => (ss_one (s_ret (e_call tkB (hr.mono (by decide)) c_p_row_chance (a_cons (e_loc 0) (a_cons (e_loc 1) a_nil)))))) (.cons ⟨rfl, by decide, .inl G.x_NoWood.g⟩ (exAll_cons G.y_BadMany_NoWood (exAll_cons G.y_NoWood_NoWood (exAll_cons G.y_TooFew_NoWood exAll_nil))) (fun _ _ _ _ => (ss_one (s_ret (e_lst (a_cons e_str a_nil))))) (.cons ⟨rfl, by decide, .inl G.x_BadMany.g⟩ (exAll_cons G.y_BadMany_BadMany (exAll_cons G.y_NoWood_BadMany (exAll_cons G.y_TooFew_BadMany exAll_nil))) (fun _ _ _ _ => (ss_one (s_ret (e_lst (a_cons e_str a_nil))))) (.cons ⟨rfl, by decide, .inl G.x_TooFew.g⟩ (exAll_cons G.y_BadMany_TooFew (exAll_cons G.y_NoWood_TooFew (exAll_cons G.y_TooFew_TooFew exAll_nil))) (fun _ _ _ _ => (ss_one (s_ret (e_lst (a_cons e_str a_nil))))) .nil)))))) (fun ds h => mkF_of h) (by decide)
theorem sc_l_due_v3 : FnScope ["_law_left", "_law_names_here", "_law_name", "_law_one", "_law_packets"] ["_law_left", "_law_names_here"] (defScope (topS 31)) := ⟨rfl, rfl, rfl, by decide +kernel, rfl, by decide +kernel, by decide +kernel⟩
theorem w_l_due_v3 (G : Gs K mg CA) (c_l_total : FnG P w K mg base CA f_l_total 1 "_law_total" []) {f : Addr} {fd : FuncData} (F : FunD K "_law_due" "_law_due" (defArgs (topS 31)) (defBody (topS 31)) (defScope (topS 31)) [] [] f fd) : FnOk P w K mg base (L2.CX P w) 2 f fd ["_law_left", "_law_names_here"] (spF K CA f_l_due_v3 2) :=
  have sc := sc_l_due_v3
  fn_ok (k := 1) (N := ["_law_left", "_law_names_here", "_law_name", "_law_one", "_law_packets"]) (ps := ["_law_left", "_law_names_here"]) (body := b_l_due_v3) F sc (fun cdv A outer s H E hr => by
    have hu := hu65 hr
    exact (ss_cons (s_if (t_not (t_val (e_blt (cr_all rfl) oAll G.g_all (by decide +kernel) (a_cons (e_lc (own := [("_law_name", 2)]) rfl sc.nd (i_seq (e_loc 1)) (blkOk_by (N := ["_law_left", "_law_names_here", "_law_name", "_law_one", "_law_packets"]) (sc := (defScope (topS 31))) (by decide +kernel)) (fun _ _ _ _ _ => (g_nm 2 sc.nd)) (by decide) (fun _ _ _ _ _ => ts_nil) (fun _ _ _ _ _ => (e_cmp hu (e_loc 2) (e_lc (own := [("_law_one", 3), ("_law_packets", 4)]) rfl sc.nd (i_seq (e_loc 0)) (blkOk_by (N := ["_law_left", "_law_names_here", "_law_name", "_law_one", "_law_packets"]) (sc := { kind := .function, names := [(".0", .local), ("_law_name", .local), ("_law_left", .cell)], isGenerator := false, isCoroutine := false, more := [] }) (by decide +kernel)) (fun _ _ _ _ _ => (g_tup rfl (tgLen_cons (tgLen_cons tgLen_nil)) (gs_cons (g_nm 3 sc.nd) (gs_cons (g_nm 4 sc.nd) gs_nil)))) (by decide) (fun _ _ _ _ _ => ts_nil) (fun _ _ _ _ _ => (e_loc 3)))))) a_nil)))) (ss_one (s_ret (e_lst (a_cons e_str a_nil)))) ss_nil)
    (ss_cons (s_if (t_not (t_chn hu e_int (e_blt cLen oLen G.g_len (by decide +kernel) (a_cons (e_loc 1) a_nil)) e_int)) (ss_one (s_ret (e_lst (a_cons e_str a_nil)))) ss_nil)
    (ss_one (s_ret (e_ite (t_cmp hu (e_call (takes_of rfl rfl rfl rfl) (hr.mono (by decide)) c_l_total (a_cons (e_loc 0) a_nil)) (e_blt cLen oLen G.g_len (by decide +kernel) (a_cons (e_loc 1) a_nil))) (e_lst (a_cons e_str a_nil)) e_non)))))) (fun ds h => mkF_of h) (by decide)
theorem sc_l_names_drawn : FnScope ["_law_cell_here", "_law_left", "_law_stranger", "_law_row", "_law_size", "_law_width", "_law_names_here", "_law_k", "_law_one"] ["_law_cell_here", "_law_left", "_law_stranger"] (defScope (topS 32)) := ⟨rfl, rfl, rfl, by decide +kernel, rfl, by decide +kernel, by decide +kernel⟩
theorem w_l_names_drawn (G : Gs K mg CA) (c_l_draw : FnG P w K mg base CA f_l_draw 1 "_law_draw" []) {f : Addr} {fd : FuncData} (F : FunD K "_law_names_drawn" "_law_names_drawn" (defArgs (topS 32)) (defBody (topS 32)) (defScope (topS 32)) [] [] f fd) : FnOk P w K mg base (L2.CX P w) 2 f fd ["_law_cell_here", "_law_left", "_law_stranger"] (spF K CA f_l_names_drawn 3) :=
  have sc := sc_l_names_drawn
  fn_ok (k := 1) (N := ["_law_cell_here", "_law_left", "_law_stranger", "_law_row", "_law_size", "_law_width", "_law_names_here", "_law_k", "_law_one"]) (ps := ["_law_cell_here", "_law_left", "_law_stranger"]) (body := b_l_names_drawn) F sc (fun cdv A outer s H E hr => by
    have hu := hu65 hr
    exact (ss_cons (s_set 3 sc.nd (e_call (takes_of rfl rfl rfl rfl) (hr.mono (by decide)) c_l_draw (a_cons (e_loc 0) (a_cons (e_bin (e_lst (a_cons e_int (a_cons e_int (a_cons e_int (a_cons e_int a_nil))))) (e_lc (own := [("_law_k", 7)]) rfl sc.nd (i_rng1 G.g_range e_int) (blkOk_by (N := ["_law_cell_here", "_law_left", "_law_stranger", "_law_row", "_law_size", "_law_width", "_law_names_here", "_law_k", "_law_one"]) (sc := (defScope (topS 32))) (by decide +kernel)) (fun _ _ _ _ _ => (g_nm 7 sc.nd)) (by decide) (fun _ _ _ _ _ => ts_nil) (fun _ _ _ _ _ => e_int))) a_nil))))
    (ss_cons (s_set 4 sc.nd (e_ite (t_cmp hu (e_idx hu (e_loc 3) e_int) e_int) (e_bin (e_idx hu (e_loc 3) e_int) e_int) (e_bin e_int (e_bin (e_idx hu (e_loc 3) e_int) e_int))))
    (ss_cons (s_set 5 sc.nd (e_idx hu (e_lst (a_cons e_int (a_cons e_int (a_cons e_int a_nil)))) (e_idx hu (e_loc 3) e_int)))
    (ss_cons (s_setlc (own := [("_law_one", 8)]) rfl sc.nd (i_seq (e_sl (e_loc 3) (o_some e_int) (o_some (e_bin e_int (e_loc 4))))) (blkOk_by (N := ["_law_cell_here", "_law_left", "_law_stranger", "_law_row", "_law_size", "_law_width", "_law_names_here", "_law_k", "_law_one"]) (sc := (defScope (topS 32))) (by decide +kernel)) (fun _ _ _ _ _ => (g_nm 8 sc.nd)) (by decide) (fun _ _ _ _ _ => ts_nil) (fun _ _ _ _ _ => (e_idx hu (e_idx hu (e_loc 1) (e_bin (e_bin (e_loc 8) (e_loc 5)) (e_blt cLen oLen G.g_len (by decide +kernel) (a_cons (e_loc 1) a_nil)))) e_int)) (sw_true rfl rfl rfl (by decide +kernel)))
    (ss_cons (s_if (t_cmp hu (e_idx hu (e_loc 3) e_int) e_int) (ss_one (s_mt (T := .l) PySem.F.plainAttrs_list PySem.F.slot_list_insert PySem.F.type_list_insert mt_insert ok_ins (p_loc 6) (a_cons (e_bin (e_idx hu (e_loc 3) e_int) (e_bin (e_loc 4) e_int)) (a_cons (e_loc 2) a_nil)))) ss_nil)
    (ss_one (s_retV 6)))))))) (fun ds h => mkF_of h) (by decide)
theorem sc_l_law_k28 : FnScope ["_law_script", "_law_k", "_law_first", "_law_second", "_law_left", "_law_stranger", "_law_names_here", "_law_handed", "_law_found", "_law_due_here", "_law_over", "_law_at", "_law_gone"] ["_law_script"] (defScope (topS 33)) := ⟨rfl, rfl, rfl, by decide +kernel, rfl, by decide +kernel, by decide +kernel⟩
theorem w_l_law_k28 (G : Gs K mg CA) (c_l_many : FnG P w K mg base CA f_l_many 1 "_law_many" []) (c_l_cell : FnG P w K mg base CA f_l_cell 1 "_law_cell" []) (c_l_split : FnG P w K mg base CA f_l_split 1 "_law_split" []) (c_l_woods : FnG P w K mg base CA f_l_woods 3 "_law_woods" []) (c_l_names_drawn : FnG P w K mg base CA f_l_names_drawn 2 "_law_names_drawn" []) (c_p_Tray___init__ : MtI P w K mg base CA "Tray" f_p_Tray___init__ 2) (c_l_tried_v10 : FnG P w K mg base CA f_l_tried_v10 4 "_law_tried" []) (c_l_due_v3 : FnG P w K mg base CA f_l_due_v3 2 "_law_due" []) (c_l_total : FnG P w K mg base CA f_l_total 1 "_law_total" []) (c_l_down : FnG P w K mg base CA f_l_down 1 "_law_down" []) (c_l_fraction : FnG P w K mg base CA f_l_fraction 3 "_law_fraction" []) {f : Addr} {fd : FuncData} (F : FunD K "law" "law" (defArgs (topS 33)) (defBody (topS 33)) (defScope (topS 33)) [] [] f fd) : FnOk P w K mg base (L2.CX P w) 5 f fd ["_law_script"] (spF K CA f_l_law_k28 1) :=
  have sc := sc_l_law_k28
  fn_ok (k := 4) (N := ["_law_script", "_law_k", "_law_first", "_law_second", "_law_left", "_law_stranger", "_law_names_here", "_law_handed", "_law_found", "_law_due_here", "_law_over", "_law_at", "_law_gone"]) (ps := ["_law_script"]) (body := b_l_law_k28) F sc (fun cdv A outer s H E hr => by
    have hu := hu65 hr
    exact (ss_cons (s_for (passes_of rfl) rfl (i_rng1 G.g_range (e_call (takes_of rfl rfl rfl rfl) (hr.mono (by decide)) c_l_many (a_cons (e_loc 0) (a_cons e_int a_nil)))) (g_nm 1 sc.nd) (ss_cons (s_asg (e_call (takes_of rfl rfl rfl rfl) (hr.mono (by decide)) c_l_split (a_cons (e_call (takes_of rfl rfl rfl rfl) (hr.mono (by decide)) c_l_cell (a_cons (e_loc 0) (a_cons (e_loc 1) a_nil))) (a_cons e_int (a_cons e_int a_nil)))) (g_tup rfl (tgLen_cons (tgLen_cons tgLen_nil)) (gs_cons (g_nm 2 sc.nd) (gs_cons (g_nm 3 sc.nd) gs_nil))))
    (ss_cons (s_asg (e_call (takes_of rfl rfl rfl rfl) (hr.mono (by decide)) c_l_woods (a_cons (e_loc 2) a_nil)) (g_tup rfl (tgLen_cons (tgLen_cons tgLen_nil)) (gs_cons (g_nm 4 sc.nd) (gs_cons (g_nm 5 sc.nd) gs_nil))))
    (ss_cons (s_set 6 sc.nd (e_call (takes_of rfl rfl rfl rfl) (hr.mono (by decide)) c_l_names_drawn (a_cons (e_loc 3) (a_cons (e_loc 4) (a_cons (e_loc 5) a_nil)))))
    (ss_cons (s_set 7 sc.nd (e_bty call_list_of oLst G.g_list (by decide +kernel) (a_cons (e_loc 6) a_nil)))
    (ss_cons (s_set 8 sc.nd (e_call (takes_of rfl rfl rfl rfl) (hr.mono (by decide)) c_l_tried_v10 (a_cons (e_mkz (takes_of rfl rfl rfl rfl) (hr.mono (by decide)) c_p_Tray___init__ (a_cons (e_bty call_list_of oLst G.g_list (by decide +kernel) (a_cons (e_loc 4) a_nil)) a_nil)) (a_cons (e_loc 7) a_nil))))
    (ss_cons (s_set 9 sc.nd (e_call (takes_of rfl rfl rfl rfl) (hr.mono (by decide)) c_l_due_v3 (a_cons (e_loc 4) (a_cons (e_loc 6) a_nil))))
    (ss_cons (s_if (t_cmp hu (e_loc 7) (e_loc 6)) (ss_one (s_ret e_bl)) ss_nil)
    (ss_one (s_if (t_cmp hu (e_loc 9) e_non) (ss_one (s_if (t_cmp hu (e_loc 8) (e_loc 9)) (ss_one (s_ret e_bl)) ss_nil)) (ss_cons (s_set 10 sc.nd e_int)
    (ss_cons (s_for (passes_of rfl) rfl (i_rng1 G.g_range (e_blt cLen oLen G.g_len (by decide +kernel) (a_cons (e_loc 6) a_nil))) (g_nm 11 sc.nd) (ss_cons (s_set 12 sc.nd (e_mq (T := .l) PySem.F.plainAttrs_list PySem.F.slot_list_count PySem.F.type_list_count mt_lcountS oq_cntS (e_sl (e_loc 6) o_none (o_some (e_loc 11))) (a_cons (e_idx hu (e_loc 6) (e_loc 11)) a_nil)))
    (ss_one (s_set 10 sc.nd (e_bin (e_loc 10) (e_blt (cMax rfl) oMax G.g_max (by decide +kernel) (a_cons e_int (a_cons (e_bin (e_idx hu (e_bty (call_dictP rfl) oDct G.g_dict (by decide +kernel) (a_cons (e_loc 4) a_nil)) (e_idx hu (e_loc 6) (e_loc 11))) (e_loc 12)) a_nil))))))))
    (ss_one (s_if (t_not (t_val (e_call (takes_of rfl rfl rfl rfl) (hr.mono (by decide)) c_l_fraction (a_cons (e_loc 8) (a_cons (e_loc 10) (a_cons (e_call (takes_of rfl rfl rfl rfl) (hr.mono (by decide)) c_l_down (a_cons (e_call (takes_of rfl rfl rfl rfl) (hr.mono (by decide)) c_l_total (a_cons (e_loc 4) a_nil)) (a_cons (e_blt cLen oLen G.g_len (by decide +kernel) (a_cons (e_loc 6) a_nil)) a_nil))) a_nil)))))) (ss_one (s_ret e_bl)) ss_nil))))))))))))))
    (ss_one (s_ret e_bl)))) (fun ds h => mkF_of h) (by decide)
end
theorem all_mk {P : Program} {w : World} {K : PySem.W.Frag} {h : Heap} {mg : Str → Option Value} {fa f0 f1 f2 f3 f4 f5 f6 f7 f8 f9 f10 f11 f12 f13 f14 f15 f16 f17 f18 f19 f20 f21 f22 f23 f24 f25 f26 : Addr} {od0 an0 od1 an1 od2 an2 od3 an3 od4 an4 od5 an5 od6 an6 od7 an7 od8 an8 od9 an9 od10 an10 od11 an11 od12 an12 od13 an13 od14 an14 od15 an15 od16 an16 od17 an17 od18 an18 od19 an19 od20 an20 od21 an21 od22 an22 od23 an23 od24 an24 od25 an25 od26 an26 : Option Addr} {sl0 sl1 sl2 sl3 sl4 sl5 sl6 sl7 sl8 sl9 sl10 sl11 sl12 sl13 sl14 sl15 sl16 sl17 sl18 sl19 sl20 sl21 sl22 sl23 sl24 sl25 sl26 : Array (Option Value)} {oc0 kV0 dc0 pm0 cd0 ct0 oc1 kV1 dc1 pm1 cd1 ct1 oc2 kV2 dc2 pm2 cd2 ct2 oc3 kV3 dc3 pm3 cd3 ct3 oc4 kV4 dc4 pm4 cd4 ct4 oc5 kV5 dc5 pm5 cd5 ct5 oc6 kV6 dc6 pm6 cd6 ct6 oc7 kV7 dc7 pm7 cd7 ct7 oc8 kV8 dc8 pm8 cd8 ct8 oc9 kV9 dc9 pm9 cd9 ct9 oc10 kV10 dc10 pm10 cd10 ct10 oc11 kV11 dc11 pm11 cd11 ct11 oc12 kV12 dc12 pm12 cd12 ct12 oc13 kV13 dc13 pm13 cd13 ct13 oc14 kV14 dc14 pm14 cd14 ct14 oc15 kV15 dc15 pm15 cd15 ct15 oc16 kV16 dc16 pm16 cd16 ct16 oc17 kV17 dc17 pm17 cd17 ct17 oc18 kV18 dc18 pm18 cd18 ct18 oc19 kV19 dc19 pm19 cd19 ct19 oc20 kV20 dc20 pm20 cd20 ct20 oc21 kV21 dc21 pm21 cd21 ct21 oc22 kV22 dc22 pm22 cd22 ct22 oc23 kV23 dc23 pm23 cd23 ct23 oc24 kV24 dc24 pm24 cd24 ct24 oc25 kV25 dc25 pm25 cd25 ct25 oc26 kV26 dc26 pm26 cd26 ct26 : Value} {C_Tray : Addr} {T15 : Addr} {ocT15 : Value} {odT15 : Option Addr} {nT15 : Nat} {slT15 : Array (Option Value)} {t15_0 : Tok} {tg_GREATEST : Tok} {tg_LETTERS : Tok} {C_BadMany : Addr} {C_BadTray : Addr} {C_NoWood : Addr} {C_TooFew : Addr} (X : K.In h) (G : h.Ns mainGlobals mg) (hfa : mg "law" = some (.ref fa))
    (aC_Tray : PySem.W.nsIn K mainGlobals "Tray" = some (some (.ref C_Tray)))
    (pg_Tray : PySem.W.plainGet K C_Tray Str.empty = true)
    (hd_Tray : PySem.W.hasDictIn K C_Tray = true)
    (po_Tray : PySem.W.plainOver K C_Tray = true)
    (sa_Tray : PySem.W.findIn K (.ref C_Tray) "__setattr__" = some (some (.builtin "object.__setattr__")))
    (mk_Tray : PySem.W.makesIn K C_Tray = true)
    (kc_Tray : PySem.W.keepIn K (.ref C_Tray) = true)
    (nA_Tray_stock : PySem.W.findIn K (.ref C_Tray) "stock" = some none)
    (a0 : PySem.W.nsIn K mainGlobals "_wall" = some (some (.ref f0)))
    (l0 : K.lookup f0 = some ⟨oc0, od0, .func (PySem.W.fnOf "_wall" "_wall" (defArgs (topS 0)) (defBody (topS 0)) (defScope (topS 0)) .none kV0 dc0 pm0 an0 cd0 ct0), sl0⟩)
    (c0 : PySem.W.codeIn K cd0 "_wall" = true)
    (k0 : PySem.W.keepIn K (.ref f0) = true)
    (a1 : PySem.W.nsIn K mainGlobals "lowest" = some (some (.ref f1)))
    (l1 : K.lookup f1 = some ⟨oc1, od1, .func (PySem.W.fnOf "lowest" "lowest" (defArgs (topS 9)) (defBody (topS 9)) (defScope (topS 9)) .none kV1 dc1 pm1 an1 cd1 ct1), sl1⟩)
    (c1 : PySem.W.codeIn K cd1 "lowest" = true)
    (k1 : PySem.W.keepIn K (.ref f1) = true)
    (a2 : PySem.W.nsIn K mainGlobals "falling" = some (some (.ref f2)))
    (l2 : K.lookup f2 = some ⟨oc2, od2, .func (PySem.W.fnOf "falling" "falling" (defArgs (topS 10)) (defBody (topS 10)) (defScope (topS 10)) .none kV2 dc2 pm2 an2 cd2 ct2), sl2⟩)
    (c2 : PySem.W.codeIn K cd2 "falling" = true)
    (k2 : PySem.W.keepIn K (.ref f2) = true)
    (a3 : PySem.W.nsIn K mainGlobals "look_room" = some (some (.ref f3)))
    (l3 : K.lookup f3 = some ⟨oc3, od3, .func (PySem.W.fnOf "look_room" "look_room" (defArgs (topS 11)) (defBody (topS 11)) (defScope (topS 11)) .none kV3 dc3 pm3 an3 cd3 ct3), sl3⟩)
    (c3 : PySem.W.codeIn K cd3 "look_room" = true)
    (k3 : PySem.W.keepIn K (.ref f3) = true)
    (a4 : PySem.W.nsIn K mainGlobals "row_chance" = some (some (.ref f4)))
    (l4 : K.lookup f4 = some ⟨oc4, od4, .func (PySem.W.fnOf "row_chance" "row_chance" (defArgs (topS 12)) (defBody (topS 12)) (defScope (topS 12)) .none kV4 dc4 pm4 an4 cd4 ct4), sl4⟩)
    (c4 : PySem.W.codeIn K cd4 "row_chance" = true)
    (k4 : PySem.W.keepIn K (.ref f4) = true)
    (a5 : PySem.W.nsIn K mainGlobals "good_name" = some (some (.ref f5)))
    (l5 : K.lookup f5 = some ⟨oc5, od5, .func (PySem.W.fnOf "good_name" "good_name" (defArgs (topS 15)) (defBody (topS 15)) (defScope (topS 15)) .none kV5 dc5 pm5 an5 cd5 ct5), sl5⟩)
    (c5 : PySem.W.codeIn K cd5 "good_name" = true)
    (k5 : PySem.W.keepIn K (.ref f5) = true)
    (a6 : PySem.W.findIn K (.ref C_Tray) "__init__" = some (some (.ref f6)))
    (i6 : PySem.W.isFn K (.ref f6) = true)
    (l6 : K.lookup f6 = some ⟨oc6, od6, .func (PySem.W.fnOf "__init__" "Tray.__init__" (defArgs (inClass (topS 16) 0)) (defBody (inClass (topS 16) 0)) (defScope (inClass (topS 16) 0)) .none kV6 dc6 pm6 an6 cd6 ct6), sl6⟩)
    (c6 : PySem.W.codeIn K cd6 "Tray.__init__" = true)
    (k6 : PySem.W.keepIn K (.ref f6) = true)
    (a7 : PySem.W.findIn K (.ref C_Tray) "all_woods" = some (some (.ref f7)))
    (i7 : PySem.W.isFn K (.ref f7) = true)
    (l7 : K.lookup f7 = some ⟨oc7, od7, .func (PySem.W.fnOf "all_woods" "Tray.all_woods" (defArgs (inClass (topS 16) 1)) (defBody (inClass (topS 16) 1)) (defScope (inClass (topS 16) 1)) .none kV7 dc7 pm7 an7 cd7 ct7), sl7⟩)
    (c7 : PySem.W.codeIn K cd7 "Tray.all_woods" = true)
    (k7 : PySem.W.keepIn K (.ref f7) = true)
    (a8 : PySem.W.findIn K (.ref C_Tray) "packets" = some (some (.ref f8)))
    (i8 : PySem.W.isFn K (.ref f8) = true)
    (l8 : K.lookup f8 = some ⟨oc8, od8, .func (PySem.W.fnOf "packets" "Tray.packets" (defArgs (inClass (topS 16) 2)) (defBody (inClass (topS 16) 2)) (defScope (inClass (topS 16) 2)) .none kV8 dc8 pm8 an8 cd8 ct8), sl8⟩)
    (c8 : PySem.W.codeIn K cd8 "Tray.packets" = true)
    (k8 : PySem.W.keepIn K (.ref f8) = true)
    (a9 : PySem.W.findIn K (.ref C_Tray) "total" = some (some (.ref f9)))
    (i9 : PySem.W.isFn K (.ref f9) = true)
    (l9 : K.lookup f9 = some ⟨oc9, od9, .func (PySem.W.fnOf "total" "Tray.total" (defArgs (inClass (topS 16) 3)) (defBody (inClass (topS 16) 3)) (defScope (inClass (topS 16) 3)) .none kV9 dc9 pm9 an9 cd9 ct9), sl9⟩)
    (c9 : PySem.W.codeIn K cd9 "Tray.total" = true)
    (k9 : PySem.W.keepIn K (.ref f9) = true)
    (a10 : PySem.W.findIn K (.ref C_Tray) "less" = some (some (.ref f10)))
    (i10 : PySem.W.isFn K (.ref f10) = true)
    (l10 : K.lookup f10 = some ⟨oc10, od10, .func (PySem.W.fnOf "less" "Tray.less" (defArgs (inClass (topS 16) 4)) (defBody (inClass (topS 16) 4)) (defScope (inClass (topS 16) 4)) .none kV10 dc10 pm10 an10 cd10 ct10), sl10⟩)
    (c10 : PySem.W.codeIn K cd10 "Tray.less" = true)
    (k10 : PySem.W.keepIn K (.ref f10) = true)
    (a11 : PySem.W.nsIn K mainGlobals "_law_draw" = some (some (.ref f11)))
    (l11 : K.lookup f11 = some ⟨oc11, od11, .func (PySem.W.fnOf "_law_draw" "_law_draw" (defArgs (topS 18)) (defBody (topS 18)) (defScope (topS 18)) .none kV11 dc11 pm11 an11 cd11 ct11), sl11⟩)
    (c11 : PySem.W.codeIn K cd11 "_law_draw" = true)
    (k11 : PySem.W.keepIn K (.ref f11) = true)
    (a12 : PySem.W.nsIn K mainGlobals "_law_cell" = some (some (.ref f12)))
    (l12 : K.lookup f12 = some ⟨oc12, od12, .func (PySem.W.fnOf "_law_cell" "_law_cell" (defArgs (topS 19)) (defBody (topS 19)) (defScope (topS 19)) .none kV12 dc12 pm12 an12 cd12 ct12), sl12⟩)
    (c12 : PySem.W.codeIn K cd12 "_law_cell" = true)
    (k12 : PySem.W.keepIn K (.ref f12) = true)
    (a13 : PySem.W.nsIn K mainGlobals "_law_many" = some (some (.ref f13)))
    (l13 : K.lookup f13 = some ⟨oc13, od13, .func (PySem.W.fnOf "_law_many" "_law_many" (defArgs (topS 20)) (defBody (topS 20)) (defScope (topS 20)) .none kV13 dc13 pm13 an13 cd13 ct13), sl13⟩)
    (c13 : PySem.W.codeIn K cd13 "_law_many" = true)
    (k13 : PySem.W.keepIn K (.ref f13) = true)
    (a14 : PySem.W.nsIn K mainGlobals "_law_num" = some (some (.ref f14)))
    (l14 : K.lookup f14 = some ⟨oc14, od14, .func (PySem.W.fnOf "_law_num" "_law_num" (defArgs (topS 21)) (defBody (topS 21)) (defScope (topS 21)) .none kV14 dc14 pm14 an14 cd14 ct14), sl14⟩)
    (c14 : PySem.W.codeIn K cd14 "_law_num" = true)
    (k14 : PySem.W.keepIn K (.ref f14) = true)
    (a15 : PySem.W.nsIn K mainGlobals "_law_split" = some (some (.ref f15)))
    (l15 : K.lookup f15 = some ⟨oc15, od15, .func (PySem.W.fnOf "_law_split" "_law_split" (defArgs (topS 22)) (defBody (topS 22)) (defScope (topS 22)) (.ref T15) kV15 dc15 pm15 an15 cd15 ct15), sl15⟩)
    (m15 : K.lookup T15 = some ⟨ocT15, odT15, .seq #[.int 0 t15_0] nT15, slT15⟩)
    (c15 : PySem.W.codeIn K cd15 "_law_split" = true)
    (k15 : PySem.W.keepIn K (.ref f15) = true)
    (a16 : PySem.W.nsIn K mainGlobals "_law_names" = some (some (.ref f16)))
    (l16 : K.lookup f16 = some ⟨oc16, od16, .func (PySem.W.fnOf "_law_names" "_law_names" (defArgs (topS 23)) (defBody (topS 23)) (defScope (topS 23)) .none kV16 dc16 pm16 an16 cd16 ct16), sl16⟩)
    (c16 : PySem.W.codeIn K cd16 "_law_names" = true)
    (k16 : PySem.W.keepIn K (.ref f16) = true)
    (a17 : PySem.W.nsIn K mainGlobals "_law_woods" = some (some (.ref f17)))
    (l17 : K.lookup f17 = some ⟨oc17, od17, .func (PySem.W.fnOf "_law_woods" "_law_woods" (defArgs (topS 24)) (defBody (topS 24)) (defScope (topS 24)) .none kV17 dc17 pm17 an17 cd17 ct17), sl17⟩)
    (c17 : PySem.W.codeIn K cd17 "_law_woods" = true)
    (k17 : PySem.W.keepIn K (.ref f17) = true)
    (a18 : PySem.W.nsIn K mainGlobals "_law_gcd" = some (some (.ref f18)))
    (l18 : K.lookup f18 = some ⟨oc18, od18, .func (PySem.W.fnOf "_law_gcd" "_law_gcd" (defArgs (topS 25)) (defBody (topS 25)) (defScope (topS 25)) .none kV18 dc18 pm18 an18 cd18 ct18), sl18⟩)
    (c18 : PySem.W.codeIn K cd18 "_law_gcd" = true)
    (k18 : PySem.W.keepIn K (.ref f18) = true)
    (a19 : PySem.W.nsIn K mainGlobals "_law_fractions" = some (some (.ref f19)))
    (l19 : K.lookup f19 = some ⟨oc19, od19, .func (PySem.W.fnOf "_law_fractions" "_law_fractions" (defArgs (topS 26)) (defBody (topS 26)) (defScope (topS 26)) .none kV19 dc19 pm19 an19 cd19 ct19), sl19⟩)
    (c19 : PySem.W.codeIn K cd19 "_law_fractions" = true)
    (k19 : PySem.W.keepIn K (.ref f19) = true)
    (a20 : PySem.W.nsIn K mainGlobals "_law_fraction" = some (some (.ref f20)))
    (l20 : K.lookup f20 = some ⟨oc20, od20, .func (PySem.W.fnOf "_law_fraction" "_law_fraction" (defArgs (topS 27)) (defBody (topS 27)) (defScope (topS 27)) .none kV20 dc20 pm20 an20 cd20 ct20), sl20⟩)
    (c20 : PySem.W.codeIn K cd20 "_law_fraction" = true)
    (k20 : PySem.W.keepIn K (.ref f20) = true)
    (a21 : PySem.W.nsIn K mainGlobals "_law_down" = some (some (.ref f21)))
    (l21 : K.lookup f21 = some ⟨oc21, od21, .func (PySem.W.fnOf "_law_down" "_law_down" (defArgs (topS 28)) (defBody (topS 28)) (defScope (topS 28)) .none kV21 dc21 pm21 an21 cd21 ct21), sl21⟩)
    (c21 : PySem.W.codeIn K cd21 "_law_down" = true)
    (k21 : PySem.W.keepIn K (.ref f21) = true)
    (a22 : PySem.W.nsIn K mainGlobals "_law_total" = some (some (.ref f22)))
    (l22 : K.lookup f22 = some ⟨oc22, od22, .func (PySem.W.fnOf "_law_total" "_law_total" (defArgs (topS 29)) (defBody (topS 29)) (defScope (topS 29)) .none kV22 dc22 pm22 an22 cd22 ct22), sl22⟩)
    (c22 : PySem.W.codeIn K cd22 "_law_total" = true)
    (k22 : PySem.W.keepIn K (.ref f22) = true)
    (a23 : PySem.W.nsIn K mainGlobals "_law_tried" = some (some (.ref f23)))
    (l23 : K.lookup f23 = some ⟨oc23, od23, .func (PySem.W.fnOf "_law_tried" "_law_tried" (defArgs (topS 30)) (defBody (topS 30)) (defScope (topS 30)) .none kV23 dc23 pm23 an23 cd23 ct23), sl23⟩)
    (c23 : PySem.W.codeIn K cd23 "_law_tried" = true)
    (k23 : PySem.W.keepIn K (.ref f23) = true)
    (a24 : PySem.W.nsIn K mainGlobals "_law_due" = some (some (.ref f24)))
    (l24 : K.lookup f24 = some ⟨oc24, od24, .func (PySem.W.fnOf "_law_due" "_law_due" (defArgs (topS 31)) (defBody (topS 31)) (defScope (topS 31)) .none kV24 dc24 pm24 an24 cd24 ct24), sl24⟩)
    (c24 : PySem.W.codeIn K cd24 "_law_due" = true)
    (k24 : PySem.W.keepIn K (.ref f24) = true)
    (a25 : PySem.W.nsIn K mainGlobals "_law_names_drawn" = some (some (.ref f25)))
    (l25 : K.lookup f25 = some ⟨oc25, od25, .func (PySem.W.fnOf "_law_names_drawn" "_law_names_drawn" (defArgs (topS 32)) (defBody (topS 32)) (defScope (topS 32)) .none kV25 dc25 pm25 an25 cd25 ct25), sl25⟩)
    (c25 : PySem.W.codeIn K cd25 "_law_names_drawn" = true)
    (k25 : PySem.W.keepIn K (.ref f25) = true)
    (a26 : PySem.W.nsIn K mainGlobals "law" = some (some (.ref f26)))
    (l26 : K.lookup f26 = some ⟨oc26, od26, .func (PySem.W.fnOf "law" "law" (defArgs (topS 33)) (defBody (topS 33)) (defScope (topS 33)) .none kV26 dc26 pm26 an26 cd26 ct26), sl26⟩)
    (c26 : PySem.W.codeIn K cd26 "law" = true)
    (k26 : PySem.W.keepIn K (.ref f26) = true)
    (g_GREATEST : PySem.W.nsIn K mainGlobals "GREATEST" = some (some (.int 9 tg_GREATEST)))
    (g_LETTERS : PySem.W.nsIn K mainGlobals "LETTERS" = some (some (.str "abcdefghijklmnopqrstuvwxyz" tg_LETTERS)))
    (g_all : PySem.W.nsIn K mainGlobals "all" = some none)
    (g_bool : PySem.W.nsIn K mainGlobals "bool" = some none)
    (g_dict : PySem.W.nsIn K mainGlobals "dict" = some none)
    (g_int : PySem.W.nsIn K mainGlobals "int" = some none)
    (g_isinstance : PySem.W.nsIn K mainGlobals "isinstance" = some none)
    (g_len : PySem.W.nsIn K mainGlobals "len" = some none)
    (g_list : PySem.W.nsIn K mainGlobals "list" = some none)
    (g_max : PySem.W.nsIn K mainGlobals "max" = some none)
    (g_min : PySem.W.nsIn K mainGlobals "min" = some none)
    (g_range : PySem.W.nsIn K mainGlobals "range" = some none)
    (g_sum : PySem.W.nsIn K mainGlobals "sum" = some none)
    (g_tuple : PySem.W.nsIn K mainGlobals "tuple" = some none)
    (xa_BadMany : PySem.W.nsIn K mainGlobals "BadMany" = some (some (.ref C_BadMany)))
    (xi_BadMany : PySem.W.excIn K C_BadMany [.type "ValueError", .type "Exception", .type "BaseException", .type "object"] "ValueError.__new__" = true)
    (xk_BadMany : PySem.W.keepIn K (.ref C_BadMany) = true)
    (xb_BadMany : PySem.W.subIn K (.ref C_BadMany) (.type "BaseException") = some true)
    (xt_BadMany : PySem.W.typeIn K (.ref C_BadMany) = some (.type "type"))
    (xa_BadTray : PySem.W.nsIn K mainGlobals "BadTray" = some (some (.ref C_BadTray)))
    (xi_BadTray : PySem.W.excIn K C_BadTray [.type "ValueError", .type "Exception", .type "BaseException", .type "object"] "ValueError.__new__" = true)
    (xk_BadTray : PySem.W.keepIn K (.ref C_BadTray) = true)
    (xb_BadTray : PySem.W.subIn K (.ref C_BadTray) (.type "BaseException") = some true)
    (xt_BadTray : PySem.W.typeIn K (.ref C_BadTray) = some (.type "type"))
    (xa_NoWood : PySem.W.nsIn K mainGlobals "NoWood" = some (some (.ref C_NoWood)))
    (xi_NoWood : PySem.W.excIn K C_NoWood [.type "ValueError", .type "Exception", .type "BaseException", .type "object"] "ValueError.__new__" = true)
    (xk_NoWood : PySem.W.keepIn K (.ref C_NoWood) = true)
    (xb_NoWood : PySem.W.subIn K (.ref C_NoWood) (.type "BaseException") = some true)
    (xt_NoWood : PySem.W.typeIn K (.ref C_NoWood) = some (.type "type"))
    (xa_TooFew : PySem.W.nsIn K mainGlobals "TooFew" = some (some (.ref C_TooFew)))
    (xi_TooFew : PySem.W.excIn K C_TooFew [.type "ValueError", .type "Exception", .type "BaseException", .type "object"] "ValueError.__new__" = true)
    (xk_TooFew : PySem.W.keepIn K (.ref C_TooFew) = true)
    (xb_TooFew : PySem.W.subIn K (.ref C_TooFew) (.type "BaseException") = some true)
    (xt_TooFew : PySem.W.typeIn K (.ref C_TooFew) = some (.type "type"))
    (ya_BadMany_BadMany : PySem.W.subIn K (.ref C_BadMany) (.ref C_BadMany) = some true)
    (xc_BadMany : PySem.W.isClsIn K C_BadMany = true)
    (ya_BadMany_NoWood : PySem.W.subIn K (.ref C_BadMany) (.ref C_NoWood) = some false)
    (xc_NoWood : PySem.W.isClsIn K C_NoWood = true)
    (ya_BadMany_TooFew : PySem.W.subIn K (.ref C_BadMany) (.ref C_TooFew) = some false)
    (xc_TooFew : PySem.W.isClsIn K C_TooFew = true)
    (ya_NoWood_BadMany : PySem.W.subIn K (.ref C_NoWood) (.ref C_BadMany) = some false)
    (ya_NoWood_NoWood : PySem.W.subIn K (.ref C_NoWood) (.ref C_NoWood) = some true)
    (ya_NoWood_TooFew : PySem.W.subIn K (.ref C_NoWood) (.ref C_TooFew) = some false)
    (ya_TooFew_BadMany : PySem.W.subIn K (.ref C_TooFew) (.ref C_BadMany) = some false)
    (ya_TooFew_NoWood : PySem.W.subIn K (.ref C_TooFew) (.ref C_NoWood) = some false)
    (ya_TooFew_TooFew : PySem.W.subIn K (.ref C_TooFew) (.ref C_TooFew) = some true)
    (hlaw : ∀ ns : List Int, ns.length ≤ 63 → (∀ z ∈ ns, Builtin.Int.intBits z ≤ 1048576) → f_l_law_k28 [.scr (ns.map D.int)] = .ok (.own, .bl true)) :
    ∃ fd : FuncData, (∀ (s : Shared) (v : Value), BindsTo s fd ⟨[v], []⟩ [("_law_script", v)]) ∧ ∀ base : Heap, K.In base → base.Ns mainGlobals mg → FnOk P w K mg base (L2.CX P w) 5 fa fd ["_law_script"] (spLaw K) := by
  have e := hfa.symm.trans (PySem.W.mg_of X G a26)
  cases e
  have GG : Gs K mg (caOf mg) := { g_GREATEST := ⟨_, PySem.W.mg_of X G g_GREATEST⟩, g_LETTERS := ⟨_, PySem.W.mg_of X G g_LETTERS⟩, g_all := PySem.W.mg_none_of X G g_all, g_bool := PySem.W.mg_none_of X G g_bool, g_dict := PySem.W.mg_none_of X G g_dict, g_int := PySem.W.mg_none_of X G g_int, g_isinstance := PySem.W.mg_none_of X G g_isinstance, g_len := PySem.W.mg_none_of X G g_len, g_list := PySem.W.mg_none_of X G g_list, g_max := PySem.W.mg_none_of X G g_max, g_min := PySem.W.mg_none_of X G g_min, g_range := PySem.W.mg_none_of X G g_range, g_sum := PySem.W.mg_none_of X G g_sum, g_tuple := PySem.W.mg_none_of X G g_tuple, x_BadMany := exG_of X G xa_BadMany xi_BadMany xk_BadMany xb_BadMany xt_BadMany, x_BadTray := exG_of X G xa_BadTray xi_BadTray xk_BadTray xb_BadTray xt_BadTray, x_NoWood := exG_of X G xa_NoWood xi_NoWood xk_NoWood xb_NoWood xt_NoWood, x_TooFew := exG_of X G xa_TooFew xi_TooFew xk_TooFew xb_TooFew xt_TooFew, y_BadMany_BadMany := exm_of X G xa_BadMany xa_BadMany (exm_by xb_BadMany xc_BadMany xt_BadMany ya_BadMany_BadMany), y_BadMany_NoWood := exm_of X G xa_BadMany xa_NoWood (exm_by xb_NoWood xc_NoWood xt_NoWood ya_BadMany_NoWood), y_BadMany_TooFew := exm_of X G xa_BadMany xa_TooFew (exm_by xb_TooFew xc_TooFew xt_TooFew ya_BadMany_TooFew), y_NoWood_BadMany := exm_of X G xa_NoWood xa_BadMany (exm_by xb_BadMany xc_BadMany xt_BadMany ya_NoWood_BadMany), y_NoWood_NoWood := exm_of X G xa_NoWood xa_NoWood (exm_by xb_NoWood xc_NoWood xt_NoWood ya_NoWood_NoWood), y_NoWood_TooFew := exm_of X G xa_NoWood xa_TooFew (exm_by xb_TooFew xc_TooFew xt_TooFew ya_NoWood_TooFew), y_TooFew_BadMany := exm_of X G xa_TooFew xa_BadMany (exm_by xb_BadMany xc_BadMany xt_BadMany ya_TooFew_BadMany), y_TooFew_NoWood := exm_of X G xa_TooFew xa_NoWood (exm_by xb_NoWood xc_NoWood xt_NoWood ya_TooFew_NoWood), y_TooFew_TooFew := exm_of X G xa_TooFew xa_TooFew (exm_by xb_TooFew xc_TooFew xt_TooFew ya_TooFew_TooFew), fl_stock := (fun C hC => by simp at hC; subst hC; exact ⟨⟨_, aC_Tray, ⟨pg_Tray, hd_Tray, po_Tray, sa_Tray⟩, nA_Tray_stock⟩⟩) }
  have F0 := funD0 (x := "_wall") (qual := "_wall") (st := (topS 0)) l0 c0 k0
  have F1 := funD0 (x := "lowest") (qual := "lowest") (st := (topS 9)) l1 c1 k1
  have F2 := funD0 (x := "falling") (qual := "falling") (st := (topS 10)) l2 c2 k2
  have F3 := funD0 (x := "look_room") (qual := "look_room") (st := (topS 11)) l3 c3 k3
  have F4 := funD0 (x := "row_chance") (qual := "row_chance") (st := (topS 12)) l4 c4 k4
  have F5 := funD0 (x := "good_name") (qual := "good_name") (st := (topS 15)) l5 c5 k5
  have F6 := funD0 (x := "__init__") (qual := "Tray.__init__") (st := (inClass (topS 16) 0)) l6 c6 k6
  have F7 := funD0 (x := "all_woods") (qual := "Tray.all_woods") (st := (inClass (topS 16) 1)) l7 c7 k7
  have F8 := funD0 (x := "packets") (qual := "Tray.packets") (st := (inClass (topS 16) 2)) l8 c8 k8
  have F9 := funD0 (x := "total") (qual := "Tray.total") (st := (inClass (topS 16) 3)) l9 c9 k9
  have F10 := funD0 (x := "less") (qual := "Tray.less") (st := (inClass (topS 16) 4)) l10 c10 k10
  have F11 := funD0 (x := "_law_draw") (qual := "_law_draw") (st := (topS 18)) l11 c11 k11
  have F12 := funD0 (x := "_law_cell") (qual := "_law_cell") (st := (topS 19)) l12 c12 k12
  have F13 := funD0 (x := "_law_many") (qual := "_law_many") (st := (topS 20)) l13 c13 k13
  have F14 := funD0 (x := "_law_num") (qual := "_law_num") (st := (topS 21)) l14 c14 k14
  have F15 := funD1 (x := "_law_split") (qual := "_law_split") (st := (topS 22)) (dvs := [.int 0]) (its := [.int 0 t15_0]) l15 c15 k15 m15 (.cons ⟨_, rfl⟩ .nil) (by decide)
  have F16 := funD0 (x := "_law_names") (qual := "_law_names") (st := (topS 23)) l16 c16 k16
  have F17 := funD0 (x := "_law_woods") (qual := "_law_woods") (st := (topS 24)) l17 c17 k17
  have F18 := funD0 (x := "_law_gcd") (qual := "_law_gcd") (st := (topS 25)) l18 c18 k18
  have F19 := funD0 (x := "_law_fractions") (qual := "_law_fractions") (st := (topS 26)) l19 c19 k19
  have F20 := funD0 (x := "_law_fraction") (qual := "_law_fraction") (st := (topS 27)) l20 c20 k20
  have F21 := funD0 (x := "_law_down") (qual := "_law_down") (st := (topS 28)) l21 c21 k21
  have F22 := funD0 (x := "_law_total") (qual := "_law_total") (st := (topS 29)) l22 c22 k22
  have F23 := funD0 (x := "_law_tried") (qual := "_law_tried") (st := (topS 30)) l23 c23 k23
  have F24 := funD0 (x := "_law_due") (qual := "_law_due") (st := (topS 31)) l24 c24 k24
  have F25 := funD0 (x := "_law_names_drawn") (qual := "_law_names_drawn") (st := (topS 32)) l25 c25 k25
  have F26 := funD0 (x := "law") (qual := "law") (st := (topS 33)) l26 c26 k26
  refine ⟨PySem.W.fnOf "law" "law" (defArgs (topS 33)) (defBody (topS 33)) (defScope (topS 33)) .none kV26 dc26 pm26 an26 cd26 ct26, fun s v => .of_eq rfl, fun base _ _ => ?_⟩
  have o0 := w_p__wall (P := P) (w := w) (base := base) GG  F0
  have c_p__wall := fn_g (base := base) (dvs := []) (dd := []) (PySem.W.mg_of X G a0) o0 F0.kp (F0.bindsN (ps := ["k"]) fun _ _ _ _ _ _ us hl => match us, hl with | [_], _ => rfl) .nil (fun _ => .nil) rfl
  have o1 := w_p_lowest (P := P) (w := w) (base := base) GG  F1
  have c_p_lowest := fn_g (base := base) (dvs := []) (dd := []) (PySem.W.mg_of X G a1) o1 F1.kp (F1.bindsN (ps := ["over", "under"]) fun _ _ _ _ _ _ us hl => match us, hl with | [_, _], _ => rfl) .nil (fun _ => .nil) rfl
  have o2 := w_p_falling (P := P) (w := w) (base := base) GG  F2
  have c_p_falling := fn_g (base := base) (dvs := []) (dd := []) (PySem.W.mg_of X G a2) o2 F2.kp (F2.bindsN (ps := ["many", "steps_down"]) fun _ _ _ _ _ _ us hl => match us, hl with | [_, _], _ => rfl) .nil (fun _ => .nil) rfl
  have o5 := w_p_good_name (P := P) (w := w) (base := base) GG  F5
  have c_p_good_name := fn_g (base := base) (dvs := []) (dd := []) (PySem.W.mg_of X G a5) o5 F5.kp (F5.bindsN (ps := ["name"]) fun _ _ _ _ _ _ us hl => match us, hl with | [_], _ => rfl) .nil (fun _ => .nil) rfl
  have o8 := w_p_Tray_packets (P := P) (w := w) (base := base) GG  F8
  have c_p_Tray_packets : MtR P w K mg base (caOf mg) "Tray" "packets" f_p_Tray_packets 1 := ⟨⟨C_Tray, f8, _, ["self", "name"], aC_Tray, ⟨pg_Tray, hd_Tray, po_Tray, sa_Tray⟩, ⟨a8, i8, k8⟩, o8, (F8.bindsN (ps := ["self", "name"]) fun _ _ _ _ _ _ us hl => match us, hl with | [_, _], _ => rfl), fun as z => mkF_len z⟩⟩
  have o9 := w_p_Tray_total (P := P) (w := w) (base := base) GG  F9
  have c_p_Tray_total : MtR P w K mg base (caOf mg) "Tray" "total" f_p_Tray_total 1 := ⟨⟨C_Tray, f9, _, ["self"], aC_Tray, ⟨pg_Tray, hd_Tray, po_Tray, sa_Tray⟩, ⟨a9, i9, k9⟩, o9, (F9.bindsN (ps := ["self"]) fun _ _ _ _ _ _ us hl => match us, hl with | [_], _ => rfl), fun as z => mkF_len z⟩⟩
  have o11 := w_l_draw (P := P) (w := w) (base := base) GG  F11
  have c_l_draw := fn_g (base := base) (dvs := []) (dd := []) (PySem.W.mg_of X G a11) o11 F11.kp (F11.bindsN (ps := ["_law_cell_here", "_law_limits"]) fun _ _ _ _ _ _ us hl => match us, hl with | [_, _], _ => rfl) .nil (fun _ => .nil) rfl
  have o12 := w_l_cell (P := P) (w := w) (base := base) GG  F12
  have c_l_cell := fn_g (base := base) (dvs := []) (dd := []) (PySem.W.mg_of X G a12) o12 F12.kp (F12.bindsN (ps := ["_law_script", "_law_k"]) fun _ _ _ _ _ _ us hl => match us, hl with | [_, _], _ => rfl) .nil (fun _ => .nil) rfl
  have o13 := w_l_many (P := P) (w := w) (base := base) GG  F13
  have c_l_many := fn_g (base := base) (dvs := []) (dd := []) (PySem.W.mg_of X G a13) o13 F13.kp (F13.bindsN (ps := ["_law_script", "_law_few"]) fun _ _ _ _ _ _ us hl => match us, hl with | [_, _], _ => rfl) .nil (fun _ => .nil) rfl
  have o14 := w_l_num (P := P) (w := w) (base := base) GG  F14
  have c_l_num := fn_g (base := base) (dvs := []) (dd := []) (PySem.W.mg_of X G a14) o14 F14.kp (F14.bindsN (ps := ["_law_found"]) fun _ _ _ _ _ _ us hl => match us, hl with | [_], _ => rfl) .nil (fun _ => .nil) rfl
  have o15 := w_l_split (P := P) (w := w) (base := base) GG  F15
  obtain ⟨ds15_0, vv15_0, bb15_0⟩ := F15.binds1 (ps := ["_law_cell_here", "_law_parts", "_law_wide"]) 3 1 (by decide) rfl fun _ _ _ _ _ _ _ us its h1 h2 => match us, its, h1, h2 with | [_, _, _], [_], _, _ => ⟨_, rfl, rfl⟩
  have c_l_split := fn_g (base := base) (dvs := []) (dd := []) (PySem.W.mg_of X G a15) o15 F15.kp bb15_0 vv15_0 (fun _ => .nil) rfl
  obtain ⟨ds15_1, vv15_1, bb15_1⟩ := F15.binds1 (ps := ["_law_cell_here", "_law_parts", "_law_wide"]) 2 0 (by decide) rfl fun _ _ _ _ _ _ _ us its h1 h2 => match us, its, h1, h2 with | [_, _], [_], _, _ => ⟨_, rfl, rfl⟩
  have c_l_split_1 := fn_g (base := base) (dvs := [.int 0]) (dd := [.int 0]) (PySem.W.mg_of X G a15) o15 F15.kp bb15_1 vv15_1 (fun _ => (.cons (f := []) (g := []) (.int _) .nil)) rfl
  have o18 := w_l_gcd (P := P) (w := w) (base := base) GG  F18
  have c_l_gcd := fn_g (base := base) (dvs := []) (dd := []) (PySem.W.mg_of X G a18) o18 F18.kp (F18.bindsN (ps := ["_law_one", "_law_other"]) fun _ _ _ _ _ _ us hl => match us, hl with | [_, _], _ => rfl) .nil (fun _ => .nil) rfl
  have o21 := w_l_down (P := P) (w := w) (base := base) GG  F21
  have c_l_down := fn_g (base := base) (dvs := []) (dd := []) (PySem.W.mg_of X G a21) o21 F21.kp (F21.bindsN (ps := ["_law_top", "_law_steps_down"]) fun _ _ _ _ _ _ us hl => match us, hl with | [_, _], _ => rfl) .nil (fun _ => .nil) rfl
  have o22 := w_l_total (P := P) (w := w) (base := base) GG  F22
  have c_l_total := fn_g (base := base) (dvs := []) (dd := []) (PySem.W.mg_of X G a22) o22 F22.kp (F22.bindsN (ps := ["_law_left"]) fun _ _ _ _ _ _ us hl => match us, hl with | [_], _ => rfl) .nil (fun _ => .nil) rfl
  have o3 := w_p_look_room (P := P) (w := w) (base := base) GG c_p_Tray_total F3
  have c_p_look_room := fn_g (base := base) (dvs := []) (dd := []) (PySem.W.mg_of X G a3) o3 F3.kp (F3.bindsN (ps := ["tray", "censers"]) fun _ _ _ _ _ _ us hl => match us, hl with | [_, _], _ => rfl) .nil (fun _ => .nil) rfl
  have o6 := w_p_Tray___init__ (P := P) (w := w) (base := base) GG c_p_good_name F6
  have c_p_Tray___init__ : MtI P w K mg base (caOf mg) "Tray" f_p_Tray___init__ 2 := ⟨⟨C_Tray, f6, _, ["self", "woods"], aC_Tray, PySem.W.mg_of X G aC_Tray, ⟨mk_Tray, a6, i6, kc_Tray⟩, o6, (F6.bindsN (ps := ["self", "woods"]) fun _ _ _ _ _ _ us hl => match us, hl with | [_, _], _ => rfl), fun t fs ds z => mkG_len z⟩⟩
  have o7 := w_p_Tray_all_woods_v2 (P := P) (w := w) (base := base) GG c_p__wall F7
  have c_p_Tray_all_woods_v2 : MtR P w K mg base (caOf mg) "Tray" "all_woods" f_p_Tray_all_woods_v2 2 := ⟨⟨C_Tray, f7, _, ["self"], aC_Tray, ⟨pg_Tray, hd_Tray, po_Tray, sa_Tray⟩, ⟨a7, i7, k7⟩, o7, (F7.bindsN (ps := ["self"]) fun _ _ _ _ _ _ us hl => match us, hl with | [_], _ => rfl), fun as z => mkF_len z⟩⟩
  have o10 := w_p_Tray_less_v3 (P := P) (w := w) (base := base) GG c_p__wall F10
  have c_p_Tray_less_v3 : MtR P w K mg base (caOf mg) "Tray" "less" f_p_Tray_less_v3 2 := ⟨⟨C_Tray, f10, _, ["self", "name"], aC_Tray, ⟨pg_Tray, hd_Tray, po_Tray, sa_Tray⟩, ⟨a10, i10, k10⟩, o10, (F10.bindsN (ps := ["self", "name"]) fun _ _ _ _ _ _ us hl => match us, hl with | [_, _], _ => rfl), fun as z => mkF_len z⟩⟩
  have o16 := w_l_names (P := P) (w := w) (base := base) GG c_l_draw F16
  have c_l_names := fn_g (base := base) (dvs := []) (dd := []) (PySem.W.mg_of X G a16) o16 F16.kp (F16.bindsN (ps := ["_law_cell_here", "_law_count"]) fun _ _ _ _ _ _ us hl => match us, hl with | [_, _], _ => rfl) .nil (fun _ => .nil) rfl
  have o19 := w_l_fractions (P := P) (w := w) (base := base) GG c_l_num c_l_gcd F19
  have c_l_fractions := fn_g (base := base) (dvs := []) (dd := []) (PySem.W.mg_of X G a19) o19 F19.kp (F19.bindsN (ps := ["_law_found"]) fun _ _ _ _ _ _ us hl => match us, hl with | [_], _ => rfl) .nil (fun _ => .nil) rfl
  have o24 := w_l_due_v3 (P := P) (w := w) (base := base) GG c_l_total F24
  have c_l_due_v3 := fn_g (base := base) (dvs := []) (dd := []) (PySem.W.mg_of X G a24) o24 F24.kp (F24.bindsN (ps := ["_law_left", "_law_names_here"]) fun _ _ _ _ _ _ us hl => match us, hl with | [_, _], _ => rfl) .nil (fun _ => .nil) rfl
  have o25 := w_l_names_drawn (P := P) (w := w) (base := base) GG c_l_draw F25
  have c_l_names_drawn := fn_g (base := base) (dvs := []) (dd := []) (PySem.W.mg_of X G a25) o25 F25.kp (F25.bindsN (ps := ["_law_cell_here", "_law_left", "_law_stranger"]) fun _ _ _ _ _ _ us hl => match us, hl with | [_, _, _], _ => rfl) .nil (fun _ => .nil) rfl
  have o4 := w_p_row_chance (P := P) (w := w) (base := base) GG c_p_Tray_packets c_p_look_room c_p_Tray_total c_p_falling c_p_lowest F4
  have c_p_row_chance := fn_g (base := base) (dvs := []) (dd := []) (PySem.W.mg_of X G a4) o4 F4.kp (F4.bindsN (ps := ["tray", "names"]) fun _ _ _ _ _ _ us hl => match us, hl with | [_, _], _ => rfl) .nil (fun _ => .nil) rfl
  have o17 := w_l_woods (P := P) (w := w) (base := base) GG c_l_split_1 c_l_draw c_l_names F17
  have c_l_woods := fn_g (base := base) (dvs := []) (dd := []) (PySem.W.mg_of X G a17) o17 F17.kp (F17.bindsN (ps := ["_law_cell_here"]) fun _ _ _ _ _ _ us hl => match us, hl with | [_], _ => rfl) .nil (fun _ => .nil) rfl
  have o20 := w_l_fraction (P := P) (w := w) (base := base) GG c_l_fractions F20
  have c_l_fraction := fn_g (base := base) (dvs := []) (dd := []) (PySem.W.mg_of X G a20) o20 F20.kp (F20.bindsN (ps := ["_law_found", "_law_over", "_law_under"]) fun _ _ _ _ _ _ us hl => match us, hl with | [_, _, _], _ => rfl) .nil (fun _ => .nil) rfl
  have o23 := w_l_tried_v10 (P := P) (w := w) (base := base) GG c_p_row_chance F23
  have c_l_tried_v10 := fn_g (base := base) (dvs := []) (dd := []) (PySem.W.mg_of X G a23) o23 F23.kp (F23.bindsN (ps := ["_law_tray", "_law_names_here"]) fun _ _ _ _ _ _ us hl => match us, hl with | [_, _], _ => rfl) .nil (fun _ => .nil) rfl
  exact (w_l_law_k28 (P := P) (w := w) (base := base) GG c_l_many c_l_cell c_l_split c_l_woods c_l_names_drawn c_p_Tray___init__ c_l_tried_v10 c_l_due_v3 c_l_total c_l_down c_l_fraction F26).imp (law_sp hlaw)
end Cz
open PySem PySem.W PyProof.Rows
set_option maxHeartbeats 0 in
theorem PySem.Challenge.cw_censers_k28_chances_of_rows_holds : PySem.Challenge.rw_censers_k28_chances_of_rows.Holds := by
  w_on; o_law; k_head; (case hw => w_witness2)
  k_fill
  refine L2.walk_ofB (l := PySem.Challenge.rw_censers_k28_chances_of_rows) (n := 63) (k := 5) (x := "_law_script") (CX := fun w => L2.CX PySem.Challenge.rw_censers_k28_chances_of_rows.prog w) (sp := fun w => Cz.spLaw _) rfl (by decide) rfl ⟨rfl, by decide, by decide⟩ (fun w h Y => PySem.W.kIn_of Y) ?F (fun _ _ a ns hl hb _ hS => ⟨a, ns, rfl, hS, hl, hb, fun _ => rfl⟩) ?C
  case C =>
    intro w H s e s' c
    obtain ⟨_, _, _, _, _, _, _, _, _, _, _, _, z⟩ := c
    exact z
  case F =>
    intro w mg fa h KX G hmg
    refine' Cz.all_mk KX G hmg ?aC_Tray ?pg_Tray ?hd_Tray ?po_Tray ?sa_Tray ?mk_Tray ?kc_Tray ?nA_Tray_stock ?a0 ?l0 ?c0 ?k0 ?a1 ?l1 ?c1 ?k1 ?a2 ?l2 ?c2 ?k2 ?a3 ?l3 ?c3 ?k3 ?a4 ?l4 ?c4 ?k4 ?a5 ?l5 ?c5 ?k5 ?a6 ?i6 ?l6 ?c6 ?k6 ?a7 ?i7 ?l7 ?c7 ?k7 ?a8 ?i8 ?l8 ?c8 ?k8 ?a9 ?i9 ?l9 ?c9 ?k9 ?a10 ?i10 ?l10 ?c10 ?k10 ?a11 ?l11 ?c11 ?k11 ?a12 ?l12 ?c12 ?k12 ?a13 ?l13 ?c13 ?k13 ?a14 ?l14 ?c14 ?k14 ?a15 ?l15 ?m15 ?c15 ?k15 ?a16 ?l16 ?c16 ?k16 ?a17 ?l17 ?c17 ?k17 ?a18 ?l18 ?c18 ?k18 ?a19 ?l19 ?c19 ?k19 ?a20 ?l20 ?c20 ?k20 ?a21 ?l21 ?c21 ?k21 ?a22 ?l22 ?c22 ?k22 ?a23 ?l23 ?c23 ?k23 ?a24 ?l24 ?c24 ?k24 ?a25 ?l25 ?c25 ?k25 ?a26 ?l26 ?c26 ?k26 ?g_GREATEST ?g_LETTERS ?g_all ?g_bool ?g_dict ?g_int ?g_isinstance ?g_len ?g_list ?g_max ?g_min ?g_range ?g_sum ?g_tuple ?xa_BadMany ?xi_BadMany ?xk_BadMany ?xb_BadMany ?xt_BadMany ?xa_BadTray ?xi_BadTray ?xk_BadTray ?xb_BadTray ?xt_BadTray ?xa_NoWood ?xi_NoWood ?xk_NoWood ?xb_NoWood ?xt_NoWood ?xa_TooFew ?xi_TooFew ?xk_TooFew ?xb_TooFew ?xt_TooFew ?ya_BadMany_BadMany ?xc_BadMany ?ya_BadMany_NoWood ?xc_NoWood ?ya_BadMany_TooFew ?xc_TooFew ?ya_NoWood_BadMany ?ya_NoWood_NoWood ?ya_NoWood_TooFew ?ya_TooFew_BadMany ?ya_TooFew_NoWood ?ya_TooFew_TooFew Cz.law_ok_k28
    (case aC_Tray => k_is)
    (case pg_Tray => k_is)
    (case hd_Tray => k_is)
    (case po_Tray => k_is)
    (case sa_Tray => k_is)
    (case mk_Tray => k_is)
    (case kc_Tray => k_is)
    (case nA_Tray_stock => k_is)
    (case a0 => k_is)
    (case l0 => k_is)
    (case c0 => k_is)
    (case k0 => k_is)
    (case a1 => k_is)
    (case l1 => k_is)
    (case c1 => k_is)
    (case k1 => k_is)
    (case a2 => k_is)
    (case l2 => k_is)
    (case c2 => k_is)
    (case k2 => k_is)
    (case a3 => k_is)
    (case l3 => k_is)
    (case c3 => k_is)
    (case k3 => k_is)
    (case a4 => k_is)
    (case l4 => k_is)
    (case c4 => k_is)
    (case k4 => k_is)
    (case a5 => k_is)
    (case l5 => k_is)
    (case c5 => k_is)
    (case k5 => k_is)
    (case a6 => k_is)
    (case i6 => k_is)
    (case l6 => k_is)
    (case c6 => k_is)
    (case k6 => k_is)
    (case a7 => k_is)
    (case i7 => k_is)
    (case l7 => k_is)
    (case c7 => k_is)
    (case k7 => k_is)
    (case a8 => k_is)
    (case i8 => k_is)
    (case l8 => k_is)
    (case c8 => k_is)
    (case k8 => k_is)
    (case a9 => k_is)
    (case i9 => k_is)
    (case l9 => k_is)
    (case c9 => k_is)
    (case k9 => k_is)
    (case a10 => k_is)
    (case i10 => k_is)
    (case l10 => k_is)
    (case c10 => k_is)
    (case k10 => k_is)
    (case a11 => k_is)
    (case l11 => k_is)
    (case c11 => k_is)
    (case k11 => k_is)
    (case a12 => k_is)
    (case l12 => k_is)
    (case c12 => k_is)
    (case k12 => k_is)
    (case a13 => k_is)
    (case l13 => k_is)
    (case c13 => k_is)
    (case k13 => k_is)
    (case a14 => k_is)
    (case l14 => k_is)
    (case c14 => k_is)
    (case k14 => k_is)
    (case a15 => k_is)
    (case l15 => k_is)
    (case m15 => k_is)
    (case c15 => k_is)
    (case k15 => k_is)
    (case a16 => k_is)
    (case l16 => k_is)
    (case c16 => k_is)
    (case k16 => k_is)
    (case a17 => k_is)
    (case l17 => k_is)
    (case c17 => k_is)
    (case k17 => k_is)
    (case a18 => k_is)
    (case l18 => k_is)
    (case c18 => k_is)
    (case k18 => k_is)
    (case a19 => k_is)
    (case l19 => k_is)
    (case c19 => k_is)
    (case k19 => k_is)
    (case a20 => k_is)
    (case l20 => k_is)
    (case c20 => k_is)
    (case k20 => k_is)
    (case a21 => k_is)
    (case l21 => k_is)
    (case c21 => k_is)
    (case k21 => k_is)
    (case a22 => k_is)
    (case l22 => k_is)
    (case c22 => k_is)
    (case k22 => k_is)
    (case a23 => k_is)
    (case l23 => k_is)
    (case c23 => k_is)
    (case k23 => k_is)
    (case a24 => k_is)
    (case l24 => k_is)
    (case c24 => k_is)
    (case k24 => k_is)
    (case a25 => k_is)
    (case l25 => k_is)
    (case c25 => k_is)
    (case k25 => k_is)
    (case a26 => k_is)
    (case l26 => k_is)
    (case c26 => k_is)
    (case k26 => k_is)
    (case g_GREATEST => k_is)
    (case g_LETTERS => k_is)
    (case g_all => k_is)
    (case g_bool => k_is)
    (case g_dict => k_is)
    (case g_int => k_is)
    (case g_isinstance => k_is)
    (case g_len => k_is)
    (case g_list => k_is)
    (case g_max => k_is)
    (case g_min => k_is)
    (case g_range => k_is)
    (case g_sum => k_is)
    (case g_tuple => k_is)
    (case xa_BadMany => k_is)
    (case xi_BadMany => k_exc)
    (case xk_BadMany => k_is)
    (case xb_BadMany => k_is)
    (case xt_BadMany => k_is)
    (case xa_BadTray => k_is)
    (case xi_BadTray => k_exc)
    (case xk_BadTray => k_is)
    (case xb_BadTray => k_is)
    (case xt_BadTray => k_is)
    (case xa_NoWood => k_is)
    (case xi_NoWood => k_exc)
    (case xk_NoWood => k_is)
    (case xb_NoWood => k_is)
    (case xt_NoWood => k_is)
    (case xa_TooFew => k_is)
    (case xi_TooFew => k_exc)
    (case xk_TooFew => k_is)
    (case xb_TooFew => k_is)
    (case xt_TooFew => k_is)
    (case ya_BadMany_BadMany => k_is)
    (case xc_BadMany => k_is)
    (case ya_BadMany_NoWood => k_is)
    (case xc_NoWood => k_is)
    (case ya_BadMany_TooFew => k_is)
    (case xc_TooFew => k_is)
    (case ya_NoWood_BadMany => k_is)
    (case ya_NoWood_NoWood => k_is)
    (case ya_NoWood_TooFew => k_is)
    (case ya_TooFew_BadMany => k_is)
    (case ya_TooFew_NoWood => k_is)
    (case ya_TooFew_TooFew => k_is)
